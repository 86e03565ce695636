import PyProof.Rows.All
import Wide.All
import OpenK.AllK
import Wide.FinOn
import PySem.Str
import HandS.ForMost
import HandS.Deep
import KE.KDictKeyed
import HandS.Style
import HandS.Conv
import HandS.IsInst
import HandS.TupAny
import HandS.SortKw
import KE.SortData
import KE.GoesMore
import KE.GoesEnum
import KE.OsSortAny
import PyProof.ReprRoads
import HandS.TupLen
import KE.KDictLaws
import HandS.TupSets
import HandS.Iter
import PyProof.ReprLen
import HandS.Set
import HandS.Strs
import KE.KDictSum
import HandS.ExcValue
import PySem.Challenge.RW_arrowworlds_k87_whole_squares_filled
set_option linter.all false
set_option Elab.async false
set_option maxRecDepth 100000
/-! Mi, part A: values as data, a store, and the combinators that the mirror of a def is made of. -/
set_option linter.all false
namespace Mi
open PySem
inductive D where
  | non | bl (b : Bool) | int (i : Int) | str (x : Str)
  | tup (l : List D) | lst (l : List D) | dct (knd : Bool) (ks vs : List D)
  | loc (n : Nat) | rng (lo hi : Int) | clo (id : Nat) (caps : List D)
  deriving Inhabited
inductive Ob where
  | lst (l : List D)
  | dct (knd : Bool) (ks vs : List D)
  deriving Inhabited
abbrev Store := List (Option Ob)
abbrev Env := List (Option D)
structure Exn where
  cls : Str
  fs : List (Str × D)
inductive Res (α : Type) where
  | ok (a : α) (S : Store)
  | ex (e : Exn) (S : Store)
  | bad
inductive SRes where
  | next (ρ : Env) (S : Store)
  | brk (ρ : Env) (S : Store)
  | cont (ρ : Env) (S : Store)
  | ret (d : D) (S : Store)
  | ex (e : Exn) (ρ : Env) (S : Store)
  | bad
def Res.bind {α β : Type} (r : Res α) (f : α → Store → Res β) : Res β := match r with
  | .ok a S => f a S
  | .ex e S => .ex e S
  | .bad => .bad
@[simp] theorem Res.bind_ok {α β : Type} (a : α) (S : Store) (f : α → Store → Res β) : (Res.ok a S).bind f = f a S := rfl
@[simp] theorem Res.bind_ex {α β : Type} (e : Exn) (S : Store) (f : α → Store → Res β) : (Res.ex e S : Res α).bind f = .ex e S := rfl
@[simp] theorem Res.bind_bad {α β : Type} (f : α → Store → Res β) : (Res.bad : Res α).bind f = .bad := rfl
theorem Res.bind_assoc {α β γ : Type} (r : Res α) (f : α → Store → Res β) (g : β → Store → Res γ) : (r.bind f).bind g = r.bind fun a S => (f a S).bind g := by
  cases r <;> rfl
def Res.toS {α : Type} (r : Res α) (ρ : Env) (f : α → Store → SRes) : SRes := match r with
  | .ok a S => f a S
  | .ex e S => .ex e ρ S
  | .bad => .bad
@[simp] theorem Res.toS_ok {α : Type} (a : α) (S : Store) (ρ : Env) (f : α → Store → SRes) : (Res.ok a S).toS ρ f = f a S := rfl
@[simp] theorem Res.toS_bad {α : Type} (ρ : Env) (f : α → Store → SRes) : (Res.bad : Res α).toS ρ f = .bad := rfl
def SRes.seq (r : SRes) (f : Env → Store → SRes) : SRes := match r with
  | .next ρ S => f ρ S
  | r => r
@[simp] theorem SRes.seq_next (ρ : Env) (S : Store) (f : Env → Store → SRes) : (SRes.next ρ S).seq f = f ρ S := rfl
@[simp] theorem SRes.seq_ret (d : D) (S : Store) (f : Env → Store → SRes) : (SRes.ret d S).seq f = .ret d S := rfl
@[simp] theorem SRes.seq_brk (ρ : Env) (S : Store) (f : Env → Store → SRes) : (SRes.brk ρ S).seq f = .brk ρ S := rfl
@[simp] theorem SRes.seq_cont (ρ : Env) (S : Store) (f : Env → Store → SRes) : (SRes.cont ρ S).seq f = .cont ρ S := rfl
@[simp] theorem SRes.seq_bad (f : Env → Store → SRes) : SRes.bad.seq f = .bad := rfl
abbrev EM := Env → Store → Res D
abbrev TM := Env → Store → Res Bool
abbrev AM := Env → Store → Res (List D)
abbrev SM := Env → Store → SRes
abbrev GM := D → Env → Store → SRes
abbrev FM := List D → Store → Res D
/-! ### what holds no place of the store -/
mutual
def D.pure : D → Bool
  | .tup l => D.pureAll l
  | .lst l => D.pureAll l
  | .dct _ ks vs => D.pureAll ks && D.pureAll vs
  | .loc _ => false
  | .clo _ l => false
  | _ => true
def D.pureAll : List D → Bool
  | [] => true
  | d :: ds => d.pure && D.pureAll ds
end
mutual
/-- all places lie below n -/
def D.under (n : Nat) : D → Bool
  | .tup l => D.underAll n l
  | .lst l => D.underAll n l
  | .dct _ ks vs => D.underAll n ks && D.underAll n vs
  | .loc k => decide (k < n)
  | .clo _ l => D.underAll n l
  | _ => true
def D.underAll (n : Nat) : List D → Bool
  | [] => true
  | d :: ds => d.under n && D.underAll n ds
end
/-! ### as PyData: for ==, repr, sorted -/
mutual
def D.py : D → PyData
  | .non => .none
  | .bl b => .bool b
  | .int i => .int i
  | .str x => .str x
  | .tup l => .tuple (D.pyAll l)
  | .lst l => .list (D.pyAll l)
  | _ => .none
def D.pyAll : List D → List PyData
  | [] => []
  | d :: ds => d.py :: D.pyAll ds
end
mutual
/-- data made of None, bools, intsD, texts, tuples, frozen lists -/
def D.plain : D → Bool
  | .non => true
  | .bl _ => true
  | .int _ => true
  | .str _ => true
  | .tup l => D.plainAll l
  | .lst l => D.plainAll l
  | _ => false
def D.plainAll : List D → Bool
  | [] => true
  | d :: ds => d.plain && D.plainAll ds
end
/-! ### keys of dicts: ints and texts; tuples of keys, at most n deep -/
mutual
def D.keyN : Nat → D → Option NestedKey
  | _, .int i => some (.num i)
  | _, .str x => some (.text x)
  | _, .non => some .none
  | n + 1, .tup l => (D.keyAllN n l).map .tup
  | _, _ => none
def D.keyAllN : Nat → List D → Option (List NestedKey)
  | _, [] => some []
  | n, d :: ds => match D.keyN n d, D.keyAllN n ds with
    | some k, some ks => some (k :: ks)
    | _, _ => none
end
def D.key (d : D) : Option NestedKey := D.keyN 8 d
def D.keyAll (ds : List D) : Option (List NestedKey) := D.keyAllN 8 ds
/-! ### expressions -/
def eVar (i : Nat) : EM := fun ρ S => match ρ[i]? with
  | some (some d) => .ok d S
  | _ => .bad
def eC (d : D) : EM := fun _ S => .ok d S
def eOp1 (f : D → Store → Res D) (a : EM) : EM := fun ρ S => (a ρ S).bind f
def eOp2 (f : D → D → Store → Res D) (a b : EM) : EM := fun ρ S => (a ρ S).bind fun x S1 => (b ρ S1).bind fun y S2 => f x y S2
def eOp3 (f : D → D → D → Store → Res D) (a b c : EM) : EM := fun ρ S => (a ρ S).bind fun x S1 => (b ρ S1).bind fun y S2 => (c ρ S2).bind fun z S3 => f x y z S3
def aNil : AM := fun _ S => .ok [] S
def aCons (a : EM) (r : AM) : AM := fun ρ S => (a ρ S).bind fun x S1 => (r ρ S1).bind fun xs S2 => .ok (x :: xs) S2
def eTup (r : AM) : EM := fun ρ S => (r ρ S).bind fun xs S1 => if xs.length ≤ sizeLine then .ok (.tup xs) S1 else .bad
/-- a written list's items -/
def lOf (r : AM) : AM := fun ρ S => (r ρ S).bind fun xs S1 => if xs.length ≤ sizeLine then .ok xs S1 else .bad
/-- a new list: frozen; with a place -/
def eFrz (m : AM) : EM := fun ρ S => (m ρ S).bind fun xs S1 => .ok (.lst xs) S1
def eNew (m : AM) : EM := fun ρ S => (m ρ S).bind fun xs S1 => .ok (.loc S1.length) (S1 ++ [some (.lst xs)])
/-- the list at a place is frozen -/
def frz (d : D) (S : Store) : Res D := match d with
  | .loc l => match S[l]? with
    | some (some (.lst xs)) => .ok (.lst xs) (S.set l none)
    | some (some (.dct b ks vs)) => .ok (.dct b ks vs) (S.set l none)
    | _ => .bad
  | d => .ok d S
def eIf (c : TM) (a b : EM) : EM := fun ρ S => (c ρ S).bind fun k S1 => if k = true then a ρ S1 else b ρ S1
def eB (c : TM) : EM := fun ρ S => (c ρ S).bind fun k S1 => .ok (.bl k) S1
/-- an expression whose value is a bool, as a test -/
def tB (a : EM) : TM := fun ρ S => (a ρ S).bind fun d S1 => match d with
  | .bl k => .ok k S1
  | _ => .bad
def tNot (c : TM) : TM := fun ρ S => (c ρ S).bind fun k S1 => .ok (!k) S1
def tAnd (a b : TM) : TM := fun ρ S => (a ρ S).bind fun k S1 => if k = true then b ρ S1 else .ok false S1
def tOr (a b : TM) : TM := fun ρ S => (a ρ S).bind fun k S1 => if k = true then .ok true S1 else b ρ S1
def tOp2 (f : D → D → Store → Res Bool) (a b : EM) : TM := fun ρ S => (a ρ S).bind fun x S1 => (b ρ S1).bind fun y S2 => f x y S2
/-- a op b op c -/
def tChain (f g : D → D → Store → Res Bool) (a b c : EM) : TM := fun ρ S => (a ρ S).bind fun x S1 => (b ρ S1).bind fun y S2 => (f x y S2).bind fun k S3 => if k = true then (c ρ S3).bind fun z S4 => g y z S4 else .ok false S3
/-! ### statements -/
def sNext : SM := fun ρ S => .next ρ S
def sBad : SM := fun _ _ => .bad
def sSeq (a b : SM) : SM := fun ρ S => (a ρ S).seq b
def sBrk : SM := fun ρ S => .brk ρ S
def sCont : SM := fun ρ S => .cont ρ S
def sRet (a : EM) : SM := fun ρ S => (a ρ S).toS ρ fun d S1 => .ret d S1
def sRetN : SM := fun ρ S => .ret .non S
def sDrop (a : EM) : SM := fun ρ S => (a ρ S).toS ρ fun _ S1 => .next ρ S1
def sIf (c : TM) (a b : SM) : SM := fun ρ S => (c ρ S).toS ρ fun k S1 => if k = true then a ρ S1 else b ρ S1
/-- a target goes on, or raises -/
def SRes.only (r : SRes) : SRes := match r with
  | .next ρ S => .next ρ S
  | .ex e ρ S => .ex e ρ S
  | _ => .bad
@[simp] theorem SRes.only_next (ρ : Env) (S : Store) : (SRes.next ρ S).only = .next ρ S := rfl
def sAsg (a : EM) (g : GM) : SM := fun ρ S => (a ρ S).toS ρ fun d S1 => (g d ρ S1).only
/-- the value at the name is frozen -/
def sFrz (i : Nat) : SM := fun ρ S => match ρ[i]? with
  | some (some d) => (frz d S).toS ρ fun d' S1 => .next (ρ.set i (some d')) S1
  | _ => .bad
def gName (i : Nat) : GM := fun d ρ S => .next (ρ.set i (some d)) S
def gSeq : List GM → List D → Env → Store → SRes
  | [], [], ρ, S => .next ρ S
  | g :: gs, d :: ds, ρ, S => (g d ρ S).seq fun ρ1 S1 => gSeq gs ds ρ1 S1
  | _, _, _, _ => .bad
def gTup (gs : List GM) : GM := fun d ρ S => match d with
  | .tup l => if l.length = gs.length then gSeq gs l ρ S else .bad
  | _ => .bad
/-- o[i] = v, by values -/
def gSub (f : D → D → D → Store → Res Unit) (o i : EM) : GM := fun v ρ S => ((o ρ S).bind fun x S1 => (i ρ S1).bind fun y S2 => f x y v S2).toS ρ fun _ S3 => .next ρ S3
def sPar (js : List Nat) (r : AM) : SM := fun ρ S => (r ρ S).toS ρ fun ds S1 => if ds.length = js.length then .next ((js.zip ds).foldl (fun ρ p => ρ.set p.1 (some p.2)) ρ) S1 else .bad
/-! ### loops -/
def loop (body : D → SM) : List D → SM
  | [], ρ, S => .next ρ S
  | d :: ds, ρ, S => match body d ρ S with
    | .next ρ1 S1 => loop body ds ρ1 S1
    | .cont ρ1 S1 => loop body ds ρ1 S1
    | .brk ρ1 S1 => .next ρ1 S1
    | r => r
def sFor (it : AM) (g : GM) (b : SM) : SM := fun ρ S => (it ρ S).toS ρ fun ds S1 => loop (fun d ρ S => (g d ρ S).only.seq b) ds ρ S1
def whileN (c : TM) (b : SM) : Nat → SM
  | 0, _, _ => .bad
  | n + 1, ρ, S => (c ρ S).toS ρ fun k S1 => if k = true then (match b ρ S1 with
      | .next ρ1 S2 => whileN c b n ρ1 S2
      | .cont ρ1 S2 => whileN c b n ρ1 S2
      | .brk ρ1 S2 => .next ρ1 S2
      | r => r) else .next ρ S1
/-! ### what is walked -/
def intsD (lo : Int) : Nat → List D
  | 0 => []
  | n + 1 => .int lo :: intsD (lo + 1) n
def rngB (lo hi : Int) : Bool := decide (lo.natAbs < 4611686018427387904) && decide (hi.natAbs < 4611686018427387904)
/-- the items of what is walked -/
def items (d : D) (S : Store) : Res (List D) := match d with
  | .lst l => .ok l S
  | .tup l => .ok l S
  | .rng lo hi => if rngB lo hi = true then .ok (intsD lo (hi - lo).toNat) S else .bad
  | _ => .bad
def enumD : Nat → List D → List D
  | _, [] => []
  | n, d :: ds => .tup [.int (n : Nat), d] :: enumD (n + 1) ds
def iOf (a : EM) : AM := fun ρ S => (a ρ S).bind items
def enumOf (d : D) (S : Store) : Res (List D) := match d with
  | .lst l => .ok (enumD 0 l) S
  | .tup l => .ok (enumD 0 l) S
  | _ => .bad
def iEnum (a : EM) : AM := fun ρ S => (a ρ S).bind enumOf
def range1 (d : D) (S : Store) : Res (List D) := match d with
  | .int n => if rngB 0 n = true then .ok (intsD 0 n.toNat) S else .bad
  | _ => .bad
def range2 (d e : D) (S : Store) : Res (List D) := match d, e with
  | .int i, .int j => if rngB i j = true then .ok (intsD i (j - i).toNat) S else .bad
  | _, _ => .bad
def iRange1 (a : EM) : AM := fun ρ S => (a ρ S).bind range1
def iRange2 (a b : EM) : AM := fun ρ S => (a ρ S).bind fun d S1 => (b ρ S1).bind fun e S2 => range2 d e S2
/-! ### comprehensions: the names of the block are wiped at each turn; nothing is raised -/
def wipe (ρ : Env) : List Nat → Env
  | [] => ρ
  | v :: vs => (wipe ρ vs).set v none
def lcGo (vs : List Nat) (g : GM) (t : TM) (e : EM) (ρ : Env) : List D → List D → Store → Res (List D)
  | [], acc, S => .ok acc S
  | d :: ds, acc, S => match g d (wipe ρ vs) S with
    | .next ρ1 S1 => match t ρ1 S1 with
      | .ok true S2 => match e ρ1 S2 with
        | .ok x S3 => if acc.length < sizeLine then lcGo vs g t e ρ ds (acc ++ [x]) S3 else .bad
        | _ => .bad
      | .ok false S2 => lcGo vs g t e ρ ds acc S2
      | _ => .bad
    | _ => .bad
def tYes : TM := fun _ S => .ok true S
def lComp (vs : List Nat) (it : AM) (g : GM) (t : TM) (e : EM) : AM := fun ρ S => (it ρ S).bind fun ds S1 => lcGo vs g t e ρ ds [] S1
/-! ### defs -/
def runF (n : Nat) (body : SM) : FM := fun ds S => match body (ds.map some ++ List.replicate (n - ds.length) none) S with
  | .ret d S1 => .ok d S1
  | .next _ S1 => .ok .non S1
  | .ex e _ S1 => .ex e S1
  | _ => .bad
/-- a call whose arguments and answer hold no place -/
def callP (f : FM) (ds : List D) (S : Store) : Res D := if D.pureAll ds = true then (match f ds [] with
  | .ok d _ => if d.pure = true then .ok d S else .bad
  | _ => .bad) else .bad
def obUnder (n : Nat) : Option Ob → Bool
  | some (.lst l) => D.underAll n l
  | some (.dct _ ks vs) => D.underAll n ks && D.underAll n vs
  | none => true
/-- a call that may change what its arguments hold -/
def callS (f : FM) (ds : List D) (S : Store) : Res D := match f ds S with
  | .ok d S1 => if (d.under S.length && (S1.take S.length).all (obUnder S.length)) = true then .ok d (S1.take S.length) else .bad
  | _ => .bad
def eCall (cf : FM → List D → Store → Res D) (n : Nat) (f : FM) (r : AM) : EM := fun ρ S => (r ρ S).bind fun ds S1 => if ds.length = n then cf f ds S1 else .bad
def eCallP (n : Nat) (f : FM) (r : AM) : EM := eCall callP n f r
def eCallS (n : Nat) (f : FM) (r : AM) : EM := eCall callS n f r
end Mi
set_option linter.all false
/-! Mi, part B: the relation between store and abstract heap; readings; the lemma of composing. -/
namespace Mi
open PySem L2
/-- the places of the store; and the lists that are being made -/
structure Pl where
  pl : List Addr
  hid : List Addr
/-- the addresses that hold what may change -/
def Mu (ι : Pl) (S : Store) (a : Addr) : Prop := a ∈ ι.hid ∨ ∃ (l : Nat) (o : Ob), ι.pl[l]? = some a ∧ S[l]? = some (some o)
def keyD : Key → D
  | .inl i => .int i
  | .inr x => .str x
/-- a dict whose keys are tuples, as it lies -/
def NDO (P : Program) (w : World) (a : Addr) (kvs : List (NestedKey × Addr × V)) : HO := .ext fun h => (a == sysModules) = false ∧ ∃ (o : Obj) (es : Array DictEntry) (ep : Nat) (xs : List (NestedKey × Addr × Value)),
  h.get? a = some o ∧ o.ExactDict ∧ o.data = .dict es ep ∧ es.toList = xs.map (entryOfKey (nestedKind P w)) ∧ Paired (fun (p : NestedKey × Addr × V) (q : NestedKey × Addr × Value) => p.1 = q.1 ∧ p.2.1 = q.2.1 ∧ RelV p.2.2 q.2.2) kvs xs
section
variable (P : Program) (w : World) (K : PySem.W.Frag)
mutual
inductive Rel (ι : Pl) (S : Store) (H : Hp) : V → D → Prop
  | non : Rel ι S H .non .non
  | bl (b : Bool) : Rel ι S H (.bl b) (.bl b)
  | int (i : Int) : Rel ι S H (.int i) (.int i)
  | str (x : Str) : Rel ι S H (.str x) (.str x)
  | tup {a : Addr} {xs : List V} {ds : List D} : H a = some (.tup xs) → ¬ Mu ι S a → RelL ι S H xs ds → Rel ι S H (.ref a) (.tup ds)
  | lst {a : Addr} {xs : List V} {ds : List D} : SqL K H a xs → ¬ Mu ι S a → RelL ι S H xs ds → Rel ι S H (.ref a) (.lst ds)
  | dctK {a : Addr} {o : Obj} {kvs : List (Key × V)} {vs : List D} : H a = some (.frz o (.dK kvs)) → ¬ Mu ι S a → (kvs.map (·.1)).Nodup → RelL ι S H (kvs.map (·.2)) vs → Rel ι S H (.ref a) (.dct false (kvs.map fun p => keyD p.1) vs)
  | dctN {a : Addr} {o : Obj} {kvs : List (NestedKey × Addr × V)} {ks vs : List D} : H a = some (.frz o (NDO P w a kvs)) → ¬ Mu ι S a → (kvs.map (·.1)).Nodup → D.keyAll ks = some (kvs.map (·.1)) →
      RelL ι S H (kvs.map fun p => V.ref p.2.1) ks → RelL ι S H (kvs.map (·.2.2)) vs → Rel ι S H (.ref a) (.dct true ks vs)
  | loc {a : Addr} {l : Nat} : ι.pl[l]? = some a → Rel ι S H (.ref a) (.loc l)
  | rng {a : Addr} {lo hi : Int} : H a = some (.rng lo hi) → ¬ Mu ι S a → Rel ι S H (.ref a) (.rng lo hi)
inductive RelL (ι : Pl) (S : Store) (H : Hp) : List V → List D → Prop
  | nil : RelL ι S H [] []
  | cons {x : V} {xs : List V} {d : D} {ds : List D} : Rel ι S H x d → RelL ι S H xs ds → RelL ι S H (x :: xs) (d :: ds)
end
inductive ObR (ι : Pl) (S : Store) (H : Hp) (a : Addr) : Ob → Prop
  | lst {xs : List V} {ds : List D} : H a = some (.lst xs) → RelL P w K ι S H xs ds → ObR ι S H a (.lst ds)
  | dctK {kvs : List (Key × V)} {vs : List D} : H a = some (.dK kvs) → (kvs.map (·.1)).Nodup → RelL P w K ι S H (kvs.map (·.2)) vs → ObR ι S H a (.dct false (kvs.map fun p => keyD p.1) vs)
  | dctN {kvs : List (NestedKey × Addr × V)} {ks vs : List D} : H a = some (NDO P w a kvs) → (kvs.map (·.1)).Nodup → D.keyAll ks = some (kvs.map (·.1)) →
      RelL P w K ι S H (kvs.map fun p => V.ref p.2.1) ks → RelL P w K ι S H (kvs.map (·.2.2)) vs → ObR ι S H a (.dct true ks vs)
structure RS (ι : Pl) (S : Store) (H : Hp) : Prop where
  len : ι.pl.length = S.length
  obj : ∀ (l : Nat) (a : Addr) (o : Ob), ι.pl[l]? = some a → S[l]? = some (some o) → ObR P w K ι S H a o
  inj : ∀ (l l' : Nat) (a : Addr) (o o' : Ob), ι.pl[l]? = some a → ι.pl[l']? = some a → S[l]? = some (some o) → S[l']? = some (some o') → l = l'
  hd : ∀ a ∈ ι.hid, (∃ u, H a = some u) ∧ ∀ (l : Nat) (o : Ob), ι.pl[l]? = some a → S[l]? ≠ some (some o)
  kf : ∀ a o, H a = some o → K.lookup a = none
structure EnvR (ι : Pl) (S : Store) (ρ : Env) (σ : St) (H : Hp) : Prop where
  len : ρ.length = σ.length
  env : ∀ (i : Nat) (d : D), ρ[i]? = some (some d) → ∃ v, σ[i]? = some (some v) ∧ Rel P w K ι S H v d
end
/-- nothing that was frozen has changed; the places stay -/
structure StepW (ι : Pl) (S : Store) (H : Hp) (ι' : Pl) (S' : Store) (H' : Hp) : Prop where
  keep : ∀ a o, H a = some o → ¬ Mu ι S a → H' a = some o ∧ ¬ Mu ι' S' a
  pre : ∃ more, ι'.pl = ι.pl ++ more
/-- .. and the lists that are being made are as they were -/
structure Step (ι : Pl) (S : Store) (H : Hp) (ι' : Pl) (S' : Store) (H' : Hp) : Prop extends StepW ι S H ι' S' H' where
  hid : ι'.hid = ι.hid
  hk : ∀ a ∈ ι.hid, H' a = H a
section
variable {P : Program} {w : World} {K : PySem.W.Frag} {ι ι' ι'' : Pl} {S S' S'' : Store} {H H' H'' : Hp}
theorem StepW.refl : StepW ι S H ι S H := ⟨fun _ _ h n => ⟨h, n⟩, [], by simp⟩
theorem StepW.trans (a : StepW ι S H ι' S' H') (b : StepW ι' S' H' ι'' S'' H'') : StepW ι S H ι'' S'' H'' :=
  ⟨fun x o h n => let ⟨h1, n1⟩ := a.keep x o h n; b.keep x o h1 n1, by
    obtain ⟨m1, e1⟩ := a.pre; obtain ⟨m2, e2⟩ := b.pre
    exact ⟨m1 ++ m2, by rw [e2, e1, List.append_assoc]⟩⟩
theorem Step.refl : Step ι S H ι S H := ⟨.refl, rfl, fun _ _ => rfl⟩
theorem Step.trans (a : Step ι S H ι' S' H') (b : Step ι' S' H' ι'' S'' H'') : Step ι S H ι'' S'' H'' :=
  ⟨a.toStepW.trans b.toStepW, b.hid.trans a.hid, fun x hx => (b.hk x (a.hid ▸ hx)).trans (a.hk x hx)⟩
theorem StepW.at (a : StepW ι S H ι' S' H') {l : Nat} {x : Addr} (h : ι.pl[l]? = some x) : ι'.pl[l]? = some x := by
  obtain ⟨m, e⟩ := a.pre
  rw [e, List.getElem?_append_left (List.getElem?_eq_some_iff.mp h).1]
  exact h
theorem ObR.there {a : Addr} {o : Ob} (h : ObR P w K ι S H a o) : ∃ u, H a = some u := by
  cases h with
  | lst e _ => exact ⟨_, e⟩
  | dctK e _ _ => exact ⟨_, e⟩
  | dctN e _ _ _ _ => exact ⟨_, e⟩
theorem RS.muAt (r : RS P w K ι S H) {a : Addr} (m : Mu ι S a) : ∃ u, H a = some u := by
  rcases m with m | ⟨l, o, h1, h2⟩
  · exact (r.hd a m).1
  · exact (r.obj l a o h1 h2).there
theorem RS.mu (r : RS P w K ι S H) {a : Addr} (m : Mu ι S a) : K.lookup a = none := by
  rcases m with m | ⟨l, o, h1, h2⟩
  · obtain ⟨u, e⟩ := (r.hd a m).1
    exact r.kf a u e
  obtain ⟨u, e⟩ := (r.obj l a o h1 h2).there
  exact r.kf a u e
theorem StepW.sqL (st : StepW ι S H ι' S' H') (r' : ∀ a, Mu ι' S' a → K.lookup a = none) {x : Addr} {xs : List V} (h : SqL K H x xs) (n : ¬ Mu ι S x) : SqL K H' x xs ∧ ¬ Mu ι' S' x := by
  rcases h with (h | ⟨o, h⟩) | h
  · obtain ⟨h1, n1⟩ := st.keep _ _ h n
    exact ⟨.inl (.inl h1), n1⟩
  · obtain ⟨h1, n1⟩ := st.keep _ _ h n
    exact ⟨.inl (.inr ⟨o, h1⟩), n1⟩
  · refine ⟨.inr h, fun m => ?_⟩
    obtain ⟨_, _, _, e, _⟩ := h
    rw [r' _ m] at e
    cases e
mutual
theorem Rel.mono' (st : StepW ι S H ι' S' H') (r' : ∀ a, Mu ι' S' a → K.lookup a = none) : ∀ (d : D) (v : V), Rel P w K ι S H v d → Rel P w K ι' S' H' v d
  | .non, _, h => by cases h; exact .non
  | .bl b, _, h => by cases h; exact .bl b
  | .int i, _, h => by cases h; exact .int i
  | .str x, _, h => by cases h; exact .str x
  | .tup ds, _, h => by
    cases h with
    | tup e n r => obtain ⟨e1, n1⟩ := st.keep _ _ e n; exact .tup e1 n1 (RelL.mono' st r' ds _ r)
  | .lst ds, _, h => by
    cases h with
    | lst e n r => obtain ⟨e1, n1⟩ := st.sqL r' e n; exact .lst e1 n1 (RelL.mono' st r' ds _ r)
  | .dct b ks vs, _, h => by
    cases h with
    | dctK e n nd r => obtain ⟨e1, n1⟩ := st.keep _ _ e n; exact .dctK e1 n1 nd (RelL.mono' st r' vs _ r)
    | dctN e n nd k r1 r2 => obtain ⟨e1, n1⟩ := st.keep _ _ e n; exact .dctN e1 n1 nd k (RelL.mono' st r' ks _ r1) (RelL.mono' st r' vs _ r2)
  | .loc l, _, h => by
    cases h with
    | loc e => exact .loc (st.at e)
  | .rng lo hi, _, h => by
    cases h with
    | rng e n => obtain ⟨e1, n1⟩ := st.keep _ _ e n; exact .rng e1 n1
  | .clo _ _, _, h => by cases h
theorem RelL.mono' (st : StepW ι S H ι' S' H') (r' : ∀ a, Mu ι' S' a → K.lookup a = none) : ∀ (ds : List D) (vs : List V), RelL P w K ι S H vs ds → RelL P w K ι' S' H' vs ds
  | [], _, h => by cases h; exact .nil
  | d :: ds, _, h => by
    cases h with
    | cons h1 h2 => exact .cons (Rel.mono' st r' d _ h1) (RelL.mono' st r' ds _ h2)
end
theorem Rel.monoW (st : StepW ι S H ι' S' H') (r' : RS P w K ι' S' H') (d : D) (v : V) (h : Rel P w K ι S H v d) : Rel P w K ι' S' H' v d := Rel.mono' st (fun _ => r'.mu) d v h
theorem RelL.monoW (st : StepW ι S H ι' S' H') (r' : RS P w K ι' S' H') (ds : List D) (vs : List V) (h : RelL P w K ι S H vs ds) : RelL P w K ι' S' H' vs ds := RelL.mono' st (fun _ => r'.mu) ds vs h
theorem Rel.mono (st : Step ι S H ι' S' H') (r' : RS P w K ι' S' H') (d : D) (v : V) (h : Rel P w K ι S H v d) : Rel P w K ι' S' H' v d := Rel.monoW st.toStepW r' d v h
theorem RelL.mono (st : Step ι S H ι' S' H') (r' : RS P w K ι' S' H') (ds : List D) (vs : List V) (h : RelL P w K ι S H vs ds) : RelL P w K ι' S' H' vs ds := RelL.monoW st.toStepW r' ds vs h
theorem ObR.mono' {a : Addr} (st : StepW ι S H ι' S' H') (r' : ∀ a, Mu ι' S' a → K.lookup a = none) (keep : ∀ u, H a = some u → H' a = some u) {o : Ob} (h : ObR P w K ι S H a o) : ObR P w K ι' S' H' a o := by
  cases h with
  | lst e r => exact .lst (keep _ e) (RelL.mono' st r' _ _ r)
  | dctK e nd r => exact .dctK (keep _ e) nd (RelL.mono' st r' _ _ r)
  | dctN e nd q r1 r2 => exact .dctN (keep _ e) nd q (RelL.mono' st r' _ _ r1) (RelL.mono' st r' _ _ r2)
/-! keeping all that is tracked -/
theorem sqKeep {x : Addr} {xs : List V} (k : ∀ a u, H a = some u → H' a = some u) (h : SqL K H x xs) : SqL K H' x xs := by
  rcases h with (h | ⟨o, h⟩) | h
  · exact .inl (.inl (k _ _ h))
  · exact .inl (.inr ⟨o, k _ _ h⟩)
  · exact .inr h
mutual
theorem relKeep (k : ∀ a u, H a = some u → H' a = some u) : ∀ (d : D) (v : V), Rel P w K ι S H v d → Rel P w K ι S H' v d
  | .non, _, h => by cases h; exact .non
  | .bl b, _, h => by cases h; exact .bl b
  | .int i, _, h => by cases h; exact .int i
  | .str x, _, h => by cases h; exact .str x
  | .tup ds, _, h => by
    cases h with
    | tup e n r => exact .tup (k _ _ e) n (relLKeep k ds _ r)
  | .lst ds, _, h => by
    cases h with
    | lst e n r => exact .lst (sqKeep k e) n (relLKeep k ds _ r)
  | .dct b ks vs, _, h => by
    cases h with
    | dctK e n nd r => exact .dctK (k _ _ e) n nd (relLKeep k vs _ r)
    | dctN e n nd q r1 r2 => exact .dctN (k _ _ e) n nd q (relLKeep k ks _ r1) (relLKeep k vs _ r2)
  | .loc l, _, h => by
    cases h with
    | loc e => exact .loc e
  | .rng lo hi, _, h => by
    cases h with
    | rng e n => exact .rng (k _ _ e) n
  | .clo _ _, _, h => by cases h
theorem relLKeep (k : ∀ a u, H a = some u → H' a = some u) : ∀ (ds : List D) (vs : List V), RelL P w K ι S H vs ds → RelL P w K ι S H' vs ds
  | [], _, h => by cases h; exact .nil
  | d :: ds, _, h => by
    cases h with
    | cons h1 h2 => exact .cons (relKeep k d _ h1) (relLKeep k ds _ h2)
end
theorem obKeep (k : ∀ a u, H a = some u → H' a = some u) {a : Addr} {o : Ob} (h : ObR P w K ι S H a o) : ObR P w K ι S H' a o := by
  cases h with
  | lst e r => exact .lst (k _ _ e) (relLKeep k _ _ r)
  | dctK e nd r => exact .dctK (k _ _ e) nd (relLKeep k _ _ r)
  | dctN e nd q r1 r2 => exact .dctN (k _ _ e) nd q (relLKeep k _ _ r1) (relLKeep k _ _ r2)
theorem EnvR.monoW {ρ : Env} {σ : St} (st : StepW ι S H ι' S' H') (r' : RS P w K ι' S' H') (h : EnvR P w K ι S ρ σ H) : EnvR P w K ι' S' ρ σ H' :=
  ⟨h.len, fun i d e => let ⟨v, e1, r⟩ := h.env i d e; ⟨v, e1, Rel.monoW st r' d v r⟩⟩
theorem EnvR.mono {ρ : Env} {σ : St} (st : Step ι S H ι' S' H') (r' : RS P w K ι' S' H') (h : EnvR P w K ι S ρ σ H) : EnvR P w K ι' S' ρ σ H' := EnvR.monoW st.toStepW r' h
theorem RelL.length : ∀ {ds : List D} {vs : List V}, RelL P w K ι S H vs ds → vs.length = ds.length
  | [], _, h => by cases h; rfl
  | _ :: ds, _, h => by
    cases h with
    | cons _ h2 => simp [RelL.length h2]
theorem RelL.get : ∀ {ds : List D} {vs : List V} {i : Nat} {d : D}, RelL P w K ι S H vs ds → ds[i]? = some d → ∃ v, vs[i]? = some v ∧ Rel P w K ι S H v d
  | [], _, _, _, _, e => by simp at e
  | _ :: _, _, 0, _, h, e => by
    cases h with
    | cons h1 h2 => simp at e; subst e; exact ⟨_, rfl, h1⟩
  | _ :: ds, _, i + 1, d, h, e => by
    cases h with
    | cons h1 h2 => obtain ⟨v, h3, h4⟩ := RelL.get (i := i) (d := d) h2 (by simpa using e); exact ⟨v, by simpa using h3, h4⟩
theorem RelL.append : ∀ {ds es : List D} {vs us : List V}, RelL P w K ι S H vs ds → RelL P w K ι S H us es → RelL P w K ι S H (vs ++ us) (ds ++ es)
  | [], _, _, _, h, h' => by cases h; exact h'
  | _ :: ds, _, _, _, h, h' => by
    cases h with
    | cons h1 h2 => exact .cons h1 (RelL.append h2 h')
theorem EnvR.set {ρ : Env} {σ : St} {i : Nat} {d : D} {v : V} (h : EnvR P w K ι S ρ σ H) (r : Rel P w K ι S H v d) : EnvR P w K ι S (ρ.set i (some d)) (σ.set i (some v)) H := by
  refine ⟨by simp [h.len], fun j e he => ?_⟩
  by_cases hj : i = j
  · subst hj
    by_cases hl : i < ρ.length
    · rw [List.getElem?_set_self hl] at he
      cases he
      exact ⟨v, List.getElem?_set_self (h.len ▸ hl), r⟩
    · rw [List.getElem?_eq_none (by simpa using hl)] at he; cases he
  · rw [List.getElem?_set_ne hj] at he
    obtain ⟨u, e1, r1⟩ := h.env j e he
    exact ⟨u, by rw [List.getElem?_set_ne hj]; exact e1, r1⟩
theorem EnvR.wipe {ρ : Env} {σ : St} : ∀ (vs : List Nat), EnvR P w K ι S ρ σ H → EnvR P w K ι S (Mi.wipe ρ vs) (L2.wipe σ vs) H
  | [], h => h
  | v :: vs, h => by
    have ih := EnvR.wipe vs h
    refine ⟨by simp [Mi.wipe, L2.wipe, ih.len], fun j e he => ?_⟩
    unfold Mi.wipe at he
    unfold L2.wipe
    by_cases hj : v = j
    · subst hj
      by_cases hl : v < (Mi.wipe ρ vs).length
      · rw [List.getElem?_set_self hl] at he; cases he
      · rw [List.getElem?_eq_none (by simpa using hl)] at he; cases he
    · rw [List.getElem?_set_ne hj] at he
      rw [List.getElem?_set_ne hj]
      exact ih.env j e he
/-! ### what is to hold behind -/
/-- what is wanted of an exception -/
abbrev WE := Pl → Store → Hp → St → Exn → Prop
def W0 : WE := fun _ _ _ _ _ => False
variable (P w K) in
def Out {α : Type} (W : WE) (σ : St) (ι : Pl) (S : Store) (H : Hp) (r : Res α) (R : Pl → Store → Hp → α → Prop) : Prop := match r with
  | .ok d S' => ∀ ι' H', Step ι S H ι' S' H' → RS P w K ι' S' H' → R ι' S' H' d
  | .ex e S' => ∀ ι' H', Step ι S H ι' S' H' → RS P w K ι' S' H' → W ι' S' H' σ e
  | .bad => False
theorem Out.mono {α : Type} {W : WE} {σ : St} {r : Res α} {R R' : Pl → Store → Hp → α → Prop} (h : Out P w K W σ ι S H r R)
    (f : ∀ ι' S' H' d, Step ι S H ι' S' H' → RS P w K ι' S' H' → R ι' S' H' d → R' ι' S' H' d) : Out P w K W σ ι S H r R' := by
  cases r with
  | ok d S' => exact fun ι' H' st rs => f ι' S' H' d st rs (h ι' H' st rs)
  | ex e S' => exact h
  | bad => exact h
theorem Out.trans {α : Type} {W : WE} {σ : St} {r : Res α} {R : Pl → Store → Hp → α → Prop} (st : Step ι S H ι' S' H') (h : Out P w K W σ ι S H r R) : Out P w K W σ ι' S' H' r R := by
  cases r with
  | ok d S2 => exact fun ι2 H2 st2 rs => h ι2 H2 (st.trans st2) rs
  | ex e S2 => exact fun ι2 H2 st2 rs => h ι2 H2 (st.trans st2) rs
  | bad => exact h
/-- the lemma of composing -/
theorem Out.bind {α β : Type} {W : WE} {σ : St} {r : Res α} {f : α → Store → Res β} {R : Pl → Store → Hp → β → Prop} (h : Out P w K W σ ι S H (r.bind f) R) :
    Out P w K W σ ι S H r fun ι' S' H' d => Out P w K W σ ι' S' H' (f d S') R := by
  cases r with
  | ok d S' => exact fun ι' H' st rs => Out.trans st (show Out P w K W σ ι S H (f d S') R from h)
  | ex e S' => exact h
  | bad => exact h
theorem Out.now {α : Type} {W : WE} {σ : St} {d : α} {R : Pl → Store → Hp → α → Prop} (h : Out P w K W σ ι S H (.ok d S) R) (rs : RS P w K ι S H) : R ι S H d := h ι H .refl rs
variable (P w K) in
/-- behind a statement -/
def OutS (W : WE) (ι : Pl) (S : Store) (H : Hp) (r : SRes) (D : Ends) : Prop := match r with
  | .next ρ' S' => ∀ ι' σ' H', Step ι S H ι' S' H' → RS P w K ι' S' H' → EnvR P w K ι' S' ρ' σ' H' → D.nx σ' H'
  | .brk ρ' S' => ∀ ι' σ' H', Step ι S H ι' S' H' → RS P w K ι' S' H' → EnvR P w K ι' S' ρ' σ' H' → D.bk σ' H'
  | .cont ρ' S' => ∀ ι' σ' H', Step ι S H ι' S' H' → RS P w K ι' S' H' → EnvR P w K ι' S' ρ' σ' H' → D.ct σ' H'
  | .ret d S' => ∀ ι' H' x, Step ι S H ι' S' H' → RS P w K ι' S' H' → Rel P w K ι' S' H' x d → D.rt x H'
  | .ex e ρ' S' => ∀ ι' σ' H', Step ι S H ι' S' H' → RS P w K ι' S' H' → EnvR P w K ι' S' ρ' σ' H' → W ι' S' H' σ' e
  | .bad => False
theorem OutS.trans {W : WE} {r : SRes} {D : Ends} (st : Step ι S H ι' S' H') (h : OutS P w K W ι S H r D) : OutS P w K W ι' S' H' r D := by
  cases r with
  | next ρ S2 => exact fun ι2 σ2 H2 st2 rs => h ι2 σ2 H2 (st.trans st2) rs
  | brk ρ S2 => exact fun ι2 σ2 H2 st2 rs => h ι2 σ2 H2 (st.trans st2) rs
  | cont ρ S2 => exact fun ι2 σ2 H2 st2 rs => h ι2 σ2 H2 (st.trans st2) rs
  | ret d S2 => exact fun ι2 H2 x st2 rs => h ι2 H2 x (st.trans st2) rs
  | ex e ρ S2 => exact fun ι2 σ2 H2 st2 rs => h ι2 σ2 H2 (st.trans st2) rs
  | bad => exact h
theorem OutS.seq {W : WE} {r : SRes} {f : Env → Store → SRes} {D : Ends} (h : OutS P w K W ι S H (r.seq f) D) :
    OutS P w K W ι S H r { D with nx := fun σ' H' => ∃ ι' S' ρ', RS P w K ι' S' H' ∧ EnvR P w K ι' S' ρ' σ' H' ∧ Step ι S H ι' S' H' ∧ OutS P w K W ι' S' H' (f ρ' S') D } := by
  cases r with
  | next ρ S2 => exact fun ι2 σ2 H2 st2 rs er => ⟨ι2, S2, ρ, rs, er, st2, OutS.trans st2 h⟩
  | brk ρ S2 => exact h
  | cont ρ S2 => exact h
  | ret d S2 => exact h
  | ex e ρ S2 => exact h
  | bad => exact h
/-- an expression, then a statement -/
theorem Out.toS {α : Type} {W : WE} {σ : St} {ρ : Env} {r : Res α} {f : α → Store → SRes} {D : Ends} (er : EnvR P w K ι S ρ σ H) (h : OutS P w K W ι S H (r.toS ρ f) D) :
    Out P w K W σ ι S H r fun ι' S' H' d => OutS P w K W ι' S' H' (f d S') D := by
  cases r with
  | ok d S' => exact fun ι' H' st rs => OutS.trans st (show OutS P w K W ι S H (f d S') D from h)
  | ex e S' => exact fun ι' H' st rs => h ι' σ H' st rs (er.mono st rs)
  | bad => exact h
/-! ### readings -/
variable (P w K) in
def KF (H : Hp) : Prop := ∀ a o, H a = some o → K.lookup a = none
variable (P w K) in
def rE (W : WE) (m : EM) : TE := fun σ H Q => KF K H → ∃ ι S ρ, RS P w K ι S H ∧ EnvR P w K ι S ρ σ H ∧ Out P w K W σ ι S H (m ρ S) fun ι' S' H' d => ∀ x, Rel P w K ι' S' H' x d → Q x H'
variable (P w K) in
def rT (W : WE) (m : TM) : TT := fun σ H Q => KF K H → ∃ ι S ρ, RS P w K ι S H ∧ EnvR P w K ι S ρ σ H ∧ Out P w K W σ ι S H (m ρ S) fun ι' S' H' k => Q k H'
variable (P w K) in
def rA (W : WE) (m : AM) : TA := fun σ H Q => KF K H → ∃ ι S ρ, RS P w K ι S H ∧ EnvR P w K ι S ρ σ H ∧ Out P w K W σ ι S H (m ρ S) fun ι' S' H' ds => ∀ xs, RelL P w K ι' S' H' xs ds → Q xs H'
variable (P w K) in
/-- a new list -/
def rL (W : WE) (m : AM) : TE := fun σ H Q => KF K H → ∃ ι S ρ, RS P w K ι S H ∧ EnvR P w K ι S ρ σ H ∧ Out P w K W σ ι S H (m ρ S) fun ι' S' H' ds => ∀ p xs, H' p = none → RelL P w K ι' S' H' xs ds → Q (.ref p) (upd H' p (.lst xs))
variable (P w K) in
def rS (W : WE) (m : SM) : TS := fun D σ H => KF K H → ∃ ι S ρ, RS P w K ι S H ∧ EnvR P w K ι S ρ σ H ∧ OutS P w K W ι S H (m ρ S) D
/-- the slots but those are as they were -/
def Else (st : List Nat) (σ σ' : St) : Prop := σ'.length = σ.length ∧ ∀ i : Nat, i ∉ st → σ'[i]? = σ[i]?
theorem Else.refl {st : List Nat} {σ : St} : Else st σ σ := ⟨rfl, fun _ _ => rfl⟩
variable (P w K) in
/-- a target; st: the slots that it may store -/
def rG (W : WE) (st : List Nat) (g : GM) : TG := fun v σ H Q => KF K H → ∃ ι S ρ d, RS P w K ι S H ∧ EnvR P w K ι S ρ σ H ∧ Rel P w K ι S H v d ∧ OutS P w K W ι S H (g d ρ S) ⟨fun σ' H' => Else st σ σ' → Q σ' H', fun _ _ => False, fun _ _ => False, fun _ _ => False⟩
end
end Mi
set_option linter.all false
set_option maxRecDepth 100000
/-! Mi, part C: one lemma for each construct. -/
namespace Mi
open PySem L2
/-! ### where a text stands -/
structure Amb (X : Cx) (sc : Scope) (ow : List (Str × NameKind)) (N : List Str) (k : Nat) : Prop where
  scope : X.env.scope = sc
  fnk : sc.kind = .function
  names : X.N = N
  nd : N.Nodup
  calm : X.calm = true
  room : Room k X.A
  grd : X.A.guards = some []
  st : ∀ x, (ow.lookup x = some .local ∨ ow.lookup x = some .cell) → Loc X.env.scope x ∧ (X.fn x = true ∨ X.env.scope.names.lookup x = some .local)
  pass : PassesOwn (model X.prog X.w) X.A X.env X.xe
abbrev SE (X : Cx) (W : WE) (e : Expr) (m : EM) : Prop := PE X e (rE X.prog X.w X.K W m)
abbrev ST (X : Cx) (W : WE) (e : Expr) (m : TM) : Prop := PT X e (rT X.prog X.w X.K W m)
abbrev SW (X : Cx) (W : WE) (e : Expr) (m : TM) : Prop := PW X e (rT X.prog X.w X.K W m)
abbrev SA (X : Cx) (W : WE) (es : List Expr) (m : AM) : Prop := PA X es (rA X.prog X.w X.K W m)
abbrev SL (X : Cx) (W : WE) (e : Expr) (m : AM) : Prop := PE X e (rL X.prog X.w X.K W m)
abbrev SS (X : Cx) (W : WE) (s : Stmt) (m : SM) : Prop := PS X s (rS X.prog X.w X.K W m)
abbrev SSs (X : Cx) (W : WE) (s : List Stmt) (m : SM) : Prop := PSs X s (rS X.prog X.w X.K W m)
abbrev SG (X : Cx) (W : WE) (st : List Nat) (e : Expr) (g : GM) : Prop := PG X e (rG X.prog X.w X.K W st g)
theorem invKF {X : Cx} {pins : List (Addr × Obj)} {σ : St} {H : Hp} {s : Shared} (I : Inv X pins σ H s) : KF X.K H := fun a o e => by
  cases h : X.K.lookup a with
  | none => rfl
  | some ob =>
    have h1 := I.mod.kin a ob h
    have h2 := (I.bs a ob h1).2
    rw [e] at h2; cases h2
section
variable {X : Cx} {e : Expr}
theorem PE.use {t t' : TE} (h : PE X e t) (i : ∀ σ H Q, KF X.K H → t' σ H Q → t σ H fun x H' => KF X.K H' → Q x H') : PE X e t' :=
  ⟨fun pins s σ H Q I q => thn (h.run pins s σ H _ I (i σ H Q (invKF I) q)) fun _ _ ⟨v, H', I', r, f⟩ => ⟨v, H', I', r, f (invKF I')⟩⟩
theorem PT.use {t t' : TT} (h : PT X e t) (i : ∀ σ H Q, KF X.K H → t' σ H Q → t σ H fun x H' => KF X.K H' → Q x H') : PT X e t' :=
  ⟨fun pins s σ H Q I q => thn (h.run pins s σ H _ I (i σ H Q (invKF I) q)) fun _ _ ⟨H', I', f⟩ => ⟨H', I', f (invKF I')⟩⟩
theorem PW.use {t t' : TT} (h : PW X e t) (i : ∀ σ H Q, KF X.K H → t' σ H Q → t σ H fun x H' => KF X.K H' → Q x H') : PW X e t' :=
  ⟨fun wh pins s σ H Q I q => thn (h.run wh pins s σ H _ I (i σ H Q (invKF I) q)) fun _ _ ⟨H', I', f⟩ => ⟨H', I', f (invKF I')⟩⟩
theorem PA.use {es : List Expr} {t t' : TA} (h : PA X es t) (i : ∀ σ H Q, KF X.K H → t' σ H Q → t σ H fun x H' => KF X.K H' → Q x H') : PA X es t' :=
  ⟨fun pos pins s σ H Q I q => thn (h.run pos pins s σ H _ I (i σ H Q (invKF I) q)) fun _ _ ⟨v, H', I', r, f⟩ => ⟨v, H', I', r, f (invKF I')⟩⟩
/-- the ends of a statement, each with KF -/
def Ends.kf (K : PySem.W.Frag) (D : Ends) : Ends := ⟨fun σ H => KF K H → D.nx σ H, fun v H => KF K H → D.rt v H, fun σ H => KF K H → D.bk σ H, fun σ H => KF K H → D.ct σ H⟩
theorem spUnkf {pins : List (Addr × Obj)} {D : Ends} {f : Flow} {s' : Shared} (h : SP X pins (Ends.kf X.K D) f s') : SP X pins D f s' := by
  cases f with
  | next => obtain ⟨σ', H', I, q⟩ := h; exact ⟨σ', H', I, q (invKF I)⟩
  | brk => obtain ⟨σ', H', I, q⟩ := h; exact ⟨σ', H', I, q (invKF I)⟩
  | cont => obtain ⟨σ', H', I, q⟩ := h; exact ⟨σ', H', I, q (invKF I)⟩
  | ret u => obtain ⟨v, σ', H', I, r, q⟩ := h; exact ⟨v, σ', H', I, r, q (invKF I)⟩
theorem PS.use {st : Stmt} {t t' : TS} (h : PS X st t) (i : ∀ D σ H, KF X.K H → t' D σ H → t (Ends.kf X.K D) σ H) : PS X st t' :=
  ⟨fun pins s σ H D I q => thn (h.run pins s σ H _ I (i D σ H (invKF I) q)) fun _ _ z => spUnkf z⟩
theorem PSs.use {st : List Stmt} {t t' : TS} (h : PSs X st t) (i : ∀ D σ H, KF X.K H → t' D σ H → t (Ends.kf X.K D) σ H) : PSs X st t' :=
  ⟨fun pins s σ H D I q => thn (h.run pins s σ H _ I (i D σ H (invKF I) q)) fun _ _ z => spUnkf z⟩
theorem PG.use {t t' : TG} (h : PG X e t) (i : ∀ v σ H Q, KF X.K H → t' v σ H Q → t v σ H fun σ' H' => KF X.K H' → Q σ' H') : PG X e t' :=
  ⟨fun pins s σ H v u Q I r q => thn (h.run pins s σ H v u _ I r (i v σ H Q (invKF I) q)) fun _ _ ⟨σ', H', I', f⟩ => ⟨σ', H', I', f (invKF I')⟩⟩
end
/-! ### names, constants -/
def visB (sc : Scope) (x : Str) : Bool := match sc.names.lookup x with
  | some .local => true
  | some .cell => true
  | some .free => true
  | _ => false
def varB (N : List Str) (sc : Scope) (i : Nat) (x : Str) : Bool := decide (N[i]? = some x) && visB sc x && !(x == ("__debug__" : Str)) && !(x == ("__classdict__" : Str))
theorem vis_of {sc : Scope} {x : Str} (h : visB sc x = true) : Vis sc x := by
  unfold visB at h
  unfold Vis
  split at h <;> simp_all
section
variable {X : Cx} {sc : Scope} {ow : List (Str × NameKind)} {N : List Str} {k : Nat} {W : WE}
theorem se_var (A : Amb X sc ow N k) {i : Nat} {x : Str} {pos : Pos} (h : varB N sc i x = true) : SE X W (.Name x pos) (eVar i) := by
  unfold varB at h
  simp only [Bool.and_eq_true, decide_eq_true_eq, Bool.not_eq_true'] at h
  obtain ⟨⟨⟨h1, h2⟩, h3⟩, h4⟩ := h
  refine PE.use (pe_var (i := i) (by rw [A.names]; exact h1) (by rw [A.scope]; exact vis_of h2) h3 h4) fun σ H Q kf q => ?_
  obtain ⟨ι, S, ρ, rs, er, o⟩ := q kf
  unfold eVar at o
  cases e : ρ[i]? with
  | none => rw [e] at o; exact o.elim
  | some od =>
    cases od with
    | none => rw [e] at o; exact o.elim
    | some d =>
      rw [e] at o
      obtain ⟨v, e1, r⟩ := er.env i d e
      exact ⟨v, e1, fun _ => Out.now o rs v r⟩
theorem se_const {e : Expr} {v : V} {d : D} (h : PE X e (tC v)) (r : ∀ ι S H, Rel X.prog X.w X.K ι S H v d) : SE X W e (eC d) := by
  refine PE.use h fun σ H Q kf q => ?_
  obtain ⟨ι, S, ρ, rs, er, o⟩ := q kf
  exact fun _ => Out.now o rs v (r _ _ _)
theorem se_int {i : Int} {j pos} : SE X W (.Constant (.int i) j pos) (eC (.int i)) := se_const pe_int fun _ _ _ => .int i
theorem se_bl {b : Bool} {j pos} : SE X W (.Constant (.bool b) j pos) (eC (.bl b)) := se_const pe_bl fun _ _ _ => .bl b
theorem se_non {j pos} : SE X W (.Constant .none j pos) (eC .non) := se_const pe_non fun _ _ _ => .non
theorem se_str {x : Str} {j pos} : SE X W (.Constant (.str x) j pos) (eC (.str x)) := se_const pe_str fun _ _ _ => .str x
/-- a module's own constant int -/
theorem se_glob (A : Amb X sc ow N k) {x : Str} {i : Int} {t : Tok} {pos : Pos} (h : (decide (sc.names.lookup x = some .globalImplicit) && !(x == ("__debug__" : Str))) = true) (hm : X.mg x = some (.int i t)) : SE X W (.Name x pos) (eC (.int i)) := by
  rw [Bool.and_eq_true, decide_eq_true_eq, Bool.not_eq_true'] at h
  exact se_const (pe_glob (v := .int i) (by show X.env.scope.names.lookup x = _; rw [A.scope]; exact h.1) hm ⟨t, rfl⟩ h.2) fun _ _ _ => .int i
/-! ### one, two, three operands -/
variable {a b c e : Expr} {ma mb mc : EM} {pos : Pos}
/-- what an operation on values is -/
def OpOk (X : Cx) (W : WE) (r : R2) (f : D → D → Store → Res D) : Prop := ∀ (σ : St) (ι : Pl) (S : Store) (H : Hp) (x y : V) (dx dy : D) (Q : VK), RS X.prog X.w X.K ι S H → Rel X.prog X.w X.K ι S H x dx → Rel X.prog X.w X.K ι S H y dy →
  Out X.prog X.w X.K W σ ι S H (f dx dy S) (fun ι' S' H' d => ∀ z, Rel X.prog X.w X.K ι' S' H' z d → Q z H') → r x y H fun z H' => KF X.K H' → Q z H'
def OpOk1 (X : Cx) (W : WE) (r : V → Hp → VK → Prop) (f : D → Store → Res D) : Prop := ∀ (σ : St) (ι : Pl) (S : Store) (H : Hp) (x : V) (dx : D) (Q : VK), RS X.prog X.w X.K ι S H → Rel X.prog X.w X.K ι S H x dx →
  Out X.prog X.w X.K W σ ι S H (f dx S) (fun ι' S' H' d => ∀ z, Rel X.prog X.w X.K ι' S' H' z d → Q z H') → r x H fun z H' => KF X.K H' → Q z H'
/-- .. that makes a list -/
def OpOkL (X : Cx) (W : WE) (r : R2) (f : D → D → Store → Res (List D)) : Prop := ∀ (σ : St) (ι : Pl) (S : Store) (H : Hp) (x y : V) (dx dy : D) (Q : VK), RS X.prog X.w X.K ι S H → Rel X.prog X.w X.K ι S H x dx → Rel X.prog X.w X.K ι S H y dy →
  Out X.prog X.w X.K W σ ι S H (f dx dy S) (fun ι' S' H' l => ∀ p xs, H' p = none → RelL X.prog X.w X.K ι' S' H' xs l → Q (.ref p) (upd H' p (.lst xs))) → r x y H fun z H' => KF X.K H' → Q z H'
theorem run2 {r : R2} {f : D → D → Store → Res D} (o : OpOk X W r f) {σ : St} {H : Hp} {Q : VK} (kf : KF X.K H) (q : rE X.prog X.w X.K W (eOp2 f ma mb) σ H Q) :
    tOp r (rE X.prog X.w X.K W ma) (rE X.prog X.w X.K W mb) σ H fun z H' => KF X.K H' → Q z H' := by
  obtain ⟨ι, S, ρ, rs, er, h⟩ := q kf
  refine fun _ => ⟨ι, S, ρ, rs, er, Out.mono (Out.bind h) fun ι1 S1 H1 dx st1 rs1 h1 x rx => ?_⟩
  refine fun _ => ⟨ι1, S1, ρ, rs1, er.mono st1 rs1, Out.mono (Out.bind h1) fun ι2 S2 H2 dy st2 rs2 h2 y ry => ?_⟩
  exact o σ ι2 S2 H2 x y dx dy Q rs2 (Rel.mono st2 rs2 _ _ rx) ry h2
theorem run2L {r : R2} {f : D → D → Store → Res (List D)} (o : OpOkL X W r f) {σ : St} {H : Hp} {Q : VK} (kf : KF X.K H)
    (q : rL X.prog X.w X.K W (fun ρ S => (ma ρ S).bind fun x S1 => (mb ρ S1).bind fun y S2 => f x y S2) σ H Q) :
    tOp r (rE X.prog X.w X.K W ma) (rE X.prog X.w X.K W mb) σ H fun z H' => KF X.K H' → Q z H' := by
  obtain ⟨ι, S, ρ, rs, er, h⟩ := q kf
  refine fun _ => ⟨ι, S, ρ, rs, er, Out.mono (Out.bind h) fun ι1 S1 H1 dx st1 rs1 h1 x rx => ?_⟩
  refine fun _ => ⟨ι1, S1, ρ, rs1, er.mono st1 rs1, Out.mono (Out.bind h1) fun ι2 S2 H2 dy st2 rs2 h2 y ry => ?_⟩
  exact o σ ι2 S2 H2 x y dx dy Q rs2 (Rel.mono st2 rs2 _ _ rx) ry h2
theorem run1 {r : V → Hp → VK → Prop} {f : D → Store → Res D} (o : OpOk1 X W r f) {σ : St} {H : Hp} {Q : VK} (kf : KF X.K H) (q : rE X.prog X.w X.K W (eOp1 f ma) σ H Q) :
    tUn r (rE X.prog X.w X.K W ma) σ H fun z H' => KF X.K H' → Q z H' := by
  obtain ⟨ι, S, ρ, rs, er, h⟩ := q kf
  exact fun _ => ⟨ι, S, ρ, rs, er, Out.mono (Out.bind h) fun ι1 S1 H1 dx st1 rs1 h1 x rx => o σ ι1 S1 H1 x dx Q rs1 rx h1⟩
theorem se_bin {op : Operator} {r : R2} {f : D → D → Store → Res D} (ho : OpR X (binaryOp op) r) (o : OpOk X W r f) (ha : SE X W a ma) (hb : SE X W b mb) : SE X W (.BinOp a op b pos) (eOp2 f ma mb) :=
  PE.use (pe_op ho ha hb) fun _ _ _ kf q => run2 o kf q
def lOp2 (f : D → D → Store → Res (List D)) (ma mb : EM) : AM := fun ρ S => (ma ρ S).bind fun x S1 => (mb ρ S1).bind fun y S2 => f x y S2
theorem sl_bin {op : Operator} {r : R2} {f : D → D → Store → Res (List D)} (ho : OpR X (binaryOp op) r) (o : OpOkL X W r f) (ha : SE X W a ma) (hb : SE X W b mb) : SL X W (.BinOp a op b pos) (lOp2 f ma mb) :=
  PE.use (pe_op ho ha hb) fun _ _ _ kf q => run2L o kf q
theorem se_un {op : UnaryOp} {r : V → Hp → VK → Prop} {f : D → Store → Res D} (ho : UnR X (unaryOp op) r) (o : OpOk1 X W r f) (ha : SE X W a ma) : SE X W (.UnaryOp op a pos) (eOp1 f ma) :=
  PE.use (pe_un ho ha) fun _ _ _ kf q => run1 o kf q
/-! ### argument lists, tuples, lists -/
theorem sa_nil : SA X W [] aNil := by
  refine PA.use pa_nil fun σ H Q kf q => ?_
  obtain ⟨ι, S, ρ, rs, er, h⟩ := q kf
  exact fun _ => Out.now h rs [] .nil
theorem sa_cons {es : List Expr} {r : AM} (ha : SE X W a ma) (hr : SA X W es r) (hs : starEach (a :: es) X.env = (false, eval a X.env) :: starEach es X.env := by rfl) : SA X W (a :: es) (aCons ma r) := by
  refine PA.use (pa_cons ha hr hs) fun σ H Q kf q => ?_
  obtain ⟨ι, S, ρ, rs, er, h⟩ := q kf
  refine fun _ => ⟨ι, S, ρ, rs, er, Out.mono (Out.bind h) fun ι1 S1 H1 dx st1 rs1 h1 x rx => ?_⟩
  refine fun _ => ⟨ι1, S1, ρ, rs1, er.mono st1 rs1, Out.mono (Out.bind h1) fun ι2 S2 H2 ds st2 rs2 h2 xs rxs => fun _ => ?_⟩
  exact Out.now h2 rs2 (x :: xs) (.cons (Rel.mono st2 rs2 _ _ rx) rxs)
/-- a new object that is not to change -/
theorem RS.new {P : Program} {w : World} {K : PySem.W.Frag} {ι : Pl} {S : Store} {H : Hp} {p : Addr} {o : HO} (rs : RS P w K ι S H) (hp : H p = none) (kf : KF K (upd H p o)) :
    Step ι S H ι S (upd H p o) ∧ RS P w K ι S (upd H p o) ∧ ¬ Mu ι S p := by
  have nm : ¬ Mu ι S p := fun m => by
    obtain ⟨u, e⟩ := rs.muAt m
    rw [hp] at e; cases e
  have keep : ∀ a u, H a = some u → upd H p o a = some u := fun a u e => by rw [upd_ne (ne_of_none e hp)]; exact e
  have st : Step ι S H ι S (upd H p o) := ⟨⟨fun a u e n => ⟨keep a u e, n⟩, [], by simp⟩, rfl, fun a ha => by
    obtain ⟨u, e⟩ := (rs.hd a ha).1
    rw [e]; exact keep a u e⟩
  exact ⟨st, ⟨rs.len, fun l a ob h1 h2 => obKeep keep (rs.obj l a ob h1 h2), rs.inj, fun a ha => ⟨let ⟨u, e⟩ := (rs.hd a ha).1; ⟨u, keep a u e⟩, (rs.hd a ha).2⟩, kf⟩, nm⟩
end
end Mi
set_option linter.all false
set_option maxRecDepth 100000
namespace Mi
open PySem L2
section
variable {X : Cx} {sc : Scope} {ow : List (Str × NameKind)} {N : List Str} {k : Nat} {W : WE}
variable {a b c e : Expr} {ma mb mc : EM} {pos : Pos}
theorem se_tup {es : List Expr} {r : AM} {x1} (h : SA X W es r) : SE X W (.Tuple es x1 pos) (eTup r) := by
  refine PE.use (pe_tup h) fun σ H Q kf q => ?_
  obtain ⟨ι, S, ρ, rs, er, o⟩ := q kf
  refine fun _ => ⟨ι, S, ρ, rs, er, Out.mono (Out.bind o) fun ι1 S1 H1 ds st1 rs1 h1 xs rx => ?_⟩
  have hl := RelL.length rx
  by_cases z : ds.length ≤ sizeLine
  · rw [if_pos z] at h1
    refine ⟨by omega, fun p hp kf2 => ?_⟩
    obtain ⟨st2, rs2, nm⟩ := RS.new (o := .tup xs) rs1 hp kf2
    exact h1 ι1 _ st2 rs2 (.ref p) (.tup upd_same nm (RelL.mono st2 rs2 _ _ rx))
  · rw [if_neg z] at h1
    exact h1.elim
theorem sl_list {es : List Expr} {r : AM} (h : SA X W es r) : SL X W (.List es pos) (lOf r) := by
  refine PE.use (pe_lst h) fun σ H Q kf q => ?_
  obtain ⟨ι, S, ρ, rs, er, o⟩ := q kf
  refine fun _ => ⟨ι, S, ρ, rs, er, Out.mono (Out.bind o) fun ι1 S1 H1 ds st1 rs1 h1 xs rx => ?_⟩
  have hl := RelL.length rx
  by_cases z : ds.length ≤ sizeLine
  · rw [if_pos z] at h1
    exact ⟨by omega, fun p hp kf2 => Out.now h1 rs1 p xs hp rx⟩
  · rw [if_neg z] at h1
    exact h1.elim
/-- a new list, frozen -/
theorem se_frz {m : AM} (h : SL X W e m) : SE X W e (eFrz m) := by
  refine PE.use h fun σ H Q kf q => ?_
  obtain ⟨ι, S, ρ, rs, er, o⟩ := q kf
  refine fun _ => ⟨ι, S, ρ, rs, er, Out.mono (Out.bind o) fun ι1 S1 H1 ds st1 rs1 h1 p xs hp rx kf2 => ?_⟩
  obtain ⟨st2, rs2, nm⟩ := RS.new (o := .lst xs) rs1 hp kf2
  exact h1 ι1 _ st2 rs2 (.ref p) (.lst (SqL.of upd_same) nm (RelL.mono st2 rs2 _ _ rx))
/-- a place more -/
def Pl.add (ι : Pl) (p : Addr) : Pl := ⟨ι.pl ++ [p], ι.hid⟩
/-- a new object at a place of its own -/
theorem RS.put {P : Program} {w : World} {K : PySem.W.Frag} {ι : Pl} {S : Store} {H : Hp} {p : Addr} {o : HO} {ob : Ob} (rs : RS P w K ι S H) (hp : H p = none) (kf : KF K (upd H p o))
    (new : ∀ (ι' : Pl) (S' : Store), StepW ι S H ι' S' (upd H p o) → (∀ a, Mu ι' S' a → K.lookup a = none) → ObR P w K ι' S' (upd H p o) p ob) :
    Step ι S H (ι.add p) (S ++ [some ob]) (upd H p o) ∧ RS P w K (ι.add p) (S ++ [some ob]) (upd H p o) := by
  have keep : ∀ a u, H a = some u → upd H p o a = some u := fun a u e => by rw [upd_ne (ne_of_none e hp)]; exact e
  have at_ : ∀ (l : Nat) (a : Addr) (o' : Ob), (ι.pl ++ [p])[l]? = some a → (S ++ [some ob])[l]? = some (some o') → (l < S.length ∧ ι.pl[l]? = some a ∧ S[l]? = some (some o')) ∨ (l = S.length ∧ a = p ∧ o' = ob) := by
    intro l a o' h1 h2
    by_cases hl : l < S.length
    · rw [List.getElem?_append_left (by rw [rs.len]; exact hl)] at h1
      rw [List.getElem?_append_left hl] at h2
      exact .inl ⟨hl, h1, h2⟩
    · have hl2 : l = S.length := by
        have := (List.getElem?_eq_some_iff.mp h2).1
        simp at this; omega
      subst hl2
      rw [List.getElem?_append_right (by rw [rs.len]; exact Nat.le_refl _), rs.len, Nat.sub_self] at h1
      rw [List.getElem?_append_right (Nat.le_refl _), Nat.sub_self] at h2
      simp at h1 h2
      exact .inr ⟨rfl, h1.symm, h2.symm⟩
  have nh : p ∉ ι.hid := fun z => by
    obtain ⟨u, e⟩ := (rs.hd p z).1
    rw [hp] at e; cases e
  have stw : StepW ι S H (ι.add p) (S ++ [some ob]) (upd H p o) := by
    refine ⟨fun a u e n => ⟨keep a u e, fun m => ?_⟩, [p], rfl⟩
    rcases m with m | ⟨l, o', h1, h2⟩
    · exact n (.inl m)
    · rcases at_ l a o' h1 h2 with ⟨_, g1, g2⟩ | ⟨_, g1, _⟩
      · exact n (.inr ⟨l, o', g1, g2⟩)
      · subst g1; rw [hp] at e; cases e
  have mk : ∀ a, Mu (ι.add p) (S ++ [some ob]) a → K.lookup a = none := fun a m => by
    rcases m with m | ⟨l, o', h1, h2⟩
    · exact rs.mu (.inl m)
    · rcases at_ l a o' h1 h2 with ⟨_, g1, g2⟩ | ⟨_, g1, _⟩
      · exact rs.mu (.inr ⟨l, o', g1, g2⟩)
      · subst g1; exact kf _ _ upd_same
  refine ⟨⟨stw, rfl, fun a ha => upd_ne fun z => nh (by rw [← z]; exact ha)⟩, by simp [rs.len, Pl.add], fun l a o' h1 h2 => ?_, fun l l' a o1 o2 h1 h2 g1 g2 => ?_, fun a ha => ⟨let ⟨u, e⟩ := (rs.hd a ha).1; ⟨u, keep a u e⟩, fun l o' h1 h2 => ?_⟩, kf⟩
  · rcases at_ l a o' h1 h2 with ⟨_, g1, g2⟩ | ⟨_, g1, g2⟩
    · exact ObR.mono' stw mk (keep a) (rs.obj l a o' g1 g2)
    · subst g1 g2; exact new _ _ stw mk
  · rcases at_ l a o1 h1 g1 with ⟨y1, z1, z2⟩ | ⟨y1, z1, z2⟩ <;> rcases at_ l' a o2 h2 g2 with ⟨y2, u1, u2⟩ | ⟨y2, u1, u2⟩
    · exact rs.inj l l' a o1 o2 z1 u1 z2 u2
    · obtain ⟨v, ev⟩ := (rs.obj l a o1 z1 z2).there
      rw [u1, hp] at ev; cases ev
    · obtain ⟨v, ev⟩ := (rs.obj l' a o2 u1 u2).there
      rw [z1, hp] at ev; cases ev
    · omega
  · rcases at_ l a o' h1 h2 with ⟨_, g1, g2⟩ | ⟨_, g1, g2⟩
    · exact (rs.hd a ha).2 l o' g1 g2
    · subst g1; exact nh ha
theorem se_new {m : AM} (h : SL X W e m) : SE X W e (eNew m) := by
  refine PE.use h fun σ H Q kf q => ?_
  obtain ⟨ι, S, ρ, rs, er, o⟩ := q kf
  refine fun _ => ⟨ι, S, ρ, rs, er, Out.mono (Out.bind o) fun ι1 S1 H1 ds st1 rs1 h1 p xs hp rx kf2 => ?_⟩
  obtain ⟨st2, rs2⟩ := RS.put (o := .lst xs) (ob := .lst ds) rs1 hp kf2 fun ι' S' st mk => .lst upd_same (RelL.mono' st mk _ _ rx)
  refine h1 _ _ st2 rs2 (.ref p) (.loc ?_)
  show (ι1.pl ++ [p])[S1.length]? = some p
  rw [← rs1.len, List.getElem?_append_right (Nat.le_refl _), Nat.sub_self]
  rfl
/-- a list at a place is frozen from here on: no step of the machine -/
theorem RS.drop {P : Program} {w : World} {K : PySem.W.Frag} {ι : Pl} {S : Store} {H : Hp} {l : Nat} (rs : RS P w K ι S H) : Step ι S H ι (S.set l none) H ∧ RS P w K ι (S.set l none) H := by
  have at_ : ∀ (j : Nat) (o : Ob), (S.set l none)[j]? = some (some o) → j ≠ l ∧ S[j]? = some (some o) := by
    intro j o h
    by_cases hj : l = j
    · subst hj
      by_cases hl : l < S.length
      · rw [List.getElem?_set_self hl] at h; cases h
      · rw [List.getElem?_eq_none (by simpa using hl)] at h; cases h
    · rw [List.getElem?_set_ne hj] at h
      exact ⟨fun z => hj z.symm, h⟩
  have mu : ∀ a, Mu ι (S.set l none) a → Mu ι S a := fun a m => m.elim .inl fun ⟨j, o, h1, h2⟩ => .inr ⟨j, o, h1, (at_ j o h2).2⟩
  have stw : StepW ι S H ι (S.set l none) H := ⟨fun a u e n => ⟨e, fun m => n (mu a m)⟩, [], by simp⟩
  exact ⟨⟨stw, rfl, fun _ _ => rfl⟩, by simp [rs.len], fun j a o h1 h2 => ObR.mono' stw (fun a m => rs.mu (mu a m)) (fun _ z => z) (rs.obj j a o h1 (at_ j o h2).2),
    fun j j' a o o' h1 h2 g1 g2 => rs.inj j j' a o o' h1 h2 (at_ j o g1).2 (at_ j' o' g2).2, fun a ha => ⟨(rs.hd a ha).1, fun j o h1 h2 => (rs.hd a ha).2 j o h1 (at_ j o h2).2⟩, rs.kf⟩
theorem RS.dropMu {P : Program} {w : World} {K : PySem.W.Frag} {ι : Pl} {S : Store} {H : Hp} {l : Nat} {a : Addr} {o : Ob} (rs : RS P w K ι S H) (h1 : ι.pl[l]? = some a) (h2 : S[l]? = some (some o)) : ¬ Mu ι (S.set l none) a := by
  rintro (m | ⟨j, o', g1, g2⟩)
  · exact (rs.hd a m).2 l o h1 h2
  by_cases hj : l = j
  · subst hj
    by_cases hl : l < S.length
    · rw [List.getElem?_set_self hl] at g2; cases g2
    · rw [List.getElem?_eq_none (by simpa using hl)] at g2; cases g2
  · rw [List.getElem?_set_ne hj] at g2
    exact hj (rs.inj l j a o o' h1 g1 h2 g2)
/-- .. or locked -/
theorem RS.dropO {P : Program} {w : World} {K : PySem.W.Frag} {ι : Pl} {S : Store} {H : Hp} {l : Nat} {a : Addr} {ob : Ob} {o : HO} (rs : RS P w K ι S H) (h1 : ι.pl[l]? = some a) (h2 : S[l]? = some (some ob)) :
    Step ι S H ι (S.set l none) (upd H a o) ∧ RS P w K ι (S.set l none) (upd H a o) ∧ ¬ Mu ι (S.set l none) a := by
  obtain ⟨st0, rs0⟩ := RS.drop (l := l) rs
  have nm := RS.dropMu rs h1 h2
  have nh : a ∉ ι.hid := fun z => nm (.inl z)
  have mua : Mu ι S a := .inr ⟨l, ob, h1, h2⟩
  have far : ∀ b, Mu ι (S.set l none) b → b ≠ a := fun b m z => nm (by rw [← z]; exact m)
  have stw : StepW ι S H ι (S.set l none) (upd H a o) := ⟨fun b u e n => ⟨by rw [upd_ne (show b ≠ a from fun z => n (by rw [z]; exact mua))]; exact e, (st0.keep b u e n).2⟩, [], by simp⟩
  have mk : ∀ b, Mu ι (S.set l none) b → K.lookup b = none := fun b m => rs0.mu m
  refine ⟨⟨stw, rfl, fun b hb => upd_ne (show b ≠ a from fun z => nh (by rw [← z]; exact hb))⟩, ⟨rs0.len, fun j b u g1 g2 => ?_, rs0.inj, fun b hb => ⟨?_, (rs0.hd b hb).2⟩, fun b u e => ?_⟩, nm⟩
  · have hj : j ≠ l := by
      intro z
      subst z
      have hl : j < S.length := (List.getElem?_eq_some_iff.mp h2).1
      rw [List.getElem?_set_self hl] at g2; cases g2
    rw [List.getElem?_set_ne (Ne.symm hj)] at g2
    have ne : b ≠ a := fun z => hj (rs.inj j l a u ob (z ▸ g1) h1 g2 h2)
    exact ObR.mono' stw mk (fun u e => by rw [upd_ne ne]; exact e) (rs.obj j b u g1 g2)
  · obtain ⟨u, e⟩ := (rs0.hd b hb).1
    have ne : b ≠ a := fun z => nh (by rw [← z]; exact hb)
    exact ⟨u, by rw [upd_ne ne]; exact e⟩
  · by_cases z : b = a
    · subst z; exact rs.mu mua
    · rw [upd_ne z] at e; exact rs.kf b u e
end
end Mi
set_option linter.all false
set_option maxRecDepth 100000
namespace Mi
open PySem L2
section
variable {X : Cx} {sc : Scope} {ow : List (Str × NameKind)} {N : List Str} {k : Nat} {W : WE}
variable {a b c e : Expr} {ma mb mc : EM} {ta tb tc : TM} {pos : Pos}
/-! ### tests -/
def rKF (K : PySem.W.Frag) (r : R2) : R2 := fun x y H Q => r x y H fun z H' => KF K H' → Q z H'
theorem opKF {f : Value → Value → Sem Value} {r : R2} (h : OpR X f r) : OpR X f (rKF X.K r) := fun pins s σ H x y v u Q I rx ry q =>
  thn (h pins s σ H x y v u _ I rx ry q) fun _ _ ⟨v, H', I', r, f⟩ => ⟨v, H', I', r, f (invKF I')⟩
def fB (f : D → D → Store → Res Bool) : D → D → Store → Res D := fun x y S => (f x y S).bind fun k S1 => .ok (.bl k) S1
theorem runT {m : TM} {σ : St} {H : Hp} {Q : Bool → Hp → Prop} (q : rT X.prog X.w X.K W m σ H Q) : rE X.prog X.w X.K W (eB m) σ H fun x H' => ∃ k, x = .bl k ∧ Q k H' := fun kf => by
  obtain ⟨ι, S, ρ, rs, er, h⟩ := q kf
  refine ⟨ι, S, ρ, rs, er, ?_⟩
  unfold eB
  revert h
  cases m ρ S with
  | ok d S' => exact fun h ι' H' st rs' x rx => by cases rx; exact ⟨_, rfl, h ι' H' st rs'⟩
  | ex e S' => exact fun h => h
  | bad => exact fun h => h
theorem eB_op2 {f : D → D → Store → Res Bool} : eB (tOp2 f ma mb) = eOp2 (fB f) ma mb := by
  funext ρ S
  unfold eB eOp2 tOp2 fB
  rw [Res.bind_assoc]
  congr 1
  funext x S1
  rw [Res.bind_assoc]
theorem fB_out' {P : Program} {w : World} {K : PySem.W.Frag} {σ : St} {ι : Pl} {S : Store} {H : Hp} {f : D → D → Store → Res Bool} {dx dy : D} {R : Pl → Store → Hp → Bool → Prop} {Q : VK} (h : Out P w K W σ ι S H (f dx dy S) R)
    (g : ∀ ι' S' H' k, Step ι S H ι' S' H' → RS P w K ι' S' H' → R ι' S' H' k → Q (.bl k) H') : Out P w K W σ ι S H (fB f dx dy S) fun ι' S' H' d => ∀ z, Rel P w K ι' S' H' z d → Q z H' := by
  unfold fB
  revert h
  cases f dx dy S with
  | ok d S' => exact fun h ι' H' st rs' z rz => by cases rz; exact g ι' S' H' d st rs' (h ι' H' st rs')
  | ex e S' => exact fun h => h
  | bad => exact fun h => h
theorem fB_out {P : Program} {w : World} {K : PySem.W.Frag} {σ : St} {ι : Pl} {S : Store} {H : Hp} {f : D → D → Store → Res Bool} {dx dy : D} {Q : Bool → Hp → Prop} (h : Out P w K W σ ι S H (f dx dy S) fun ι' S' H' k => Q k H') :
    Out P w K W σ ι S H (fB f dx dy S) fun ι' S' H' d => ∀ z, Rel P w K ι' S' H' z d → ∃ k, z = .bl k ∧ (KF K H' → Q k H') := fB_out' h fun ι' S' H' k st rs h => ⟨k, rfl, fun _ => h⟩
theorem st_cmp {op : CmpOp} {r : R2} {f : D → D → Store → Res Bool} (ho : OpR X (compareOp op) r) (o : OpOk X W r (fB f)) (ha : SE X W a ma) (hb : SE X W b mb) (hm : behindInMarks op b = false) :
    ST X W (.Compare a [op] [b] pos) (tOp2 f ma mb) := by
  refine PT.use (pt_cmpR (opKF ho) ha hb hm) fun σ H Q kf q => ?_
  obtain ⟨ι, S, ρ, rs, er, h⟩ := q kf
  refine fun _ => ⟨ι, S, ρ, rs, er, Out.mono (Out.bind h) fun ι1 S1 H1 dx st1 rs1 h1 x rx => ?_⟩
  refine fun _ => ⟨ι1, S1, ρ, rs1, er.mono st1 rs1, Out.mono (Out.bind h1) fun ι2 S2 H2 dy st2 rs2 h2 y ry => ?_⟩
  refine o σ ι2 S2 H2 x y dx dy (fun z H' => ∃ k, z = .bl k ∧ (KF X.K H' → Q k H')) rs2 (Rel.mono st2 rs2 _ _ rx) ry ?_
  exact fB_out h2
/-- a op b op c -/
theorem st_chain {op op' : CmpOp} {r r' : R2} {f g : D → D → Store → Res Bool} (ho : OpR X (compareOp op) r) (ho' : OpR X (compareOp op') r') (o : OpOk X W r (fB f)) (o' : OpOk X W r' (fB g)) (ha : SE X W a ma) (hb : SE X W b mb) (hc : SE X W c mc)
    (hm : lastMarks [op, op'] [b, c] = false := by rfl) : ST X W (.Compare a [op, op'] [b, c] pos) (tChain f g ma mb mc) := by
  refine PT.use (pt_chain (opKF ho) (opKF ho') ha hb hc hm) fun σ H Q kf q => ?_
  obtain ⟨ι, S, ρ, rs, er, h⟩ := q kf
  refine fun _ => ⟨ι, S, ρ, rs, er, Out.mono (Out.bind h) fun ι1 S1 H1 dx st1 rs1 h1 x rx => ?_⟩
  refine fun _ => ⟨ι1, S1, ρ, rs1, er.mono st1 rs1, Out.mono (Out.bind h1) fun ι2 S2 H2 dy st2 rs2 h2 y ry => ?_⟩
  refine o σ ι2 S2 H2 x y dx dy _ rs2 (Rel.mono st2 rs2 _ _ rx) ry (fB_out' (Out.bind h2) fun ι3 S3 H3 k st3 rs3 h3 => ⟨k, rfl, ?_⟩)
  cases k with
  | false =>
    rw [if_neg Bool.false_ne_true] at h3 ⊢
    exact ⟨false, rfl, fun _ => Out.now h3 rs3⟩
  | true =>
    rw [if_pos rfl] at h3 ⊢
    refine fun _ => ⟨ι3, S3, ρ, rs3, (er.mono st1 rs1).mono (st2.trans st3) rs3, Out.mono (Out.bind h3) fun ι4 S4 H4 dz st4 rs4 h4 z rz => ?_⟩
    exact o' σ ι4 S4 H4 y z dy dz _ rs4 (Rel.mono (st3.trans st4) rs4 _ _ ry) rz (fB_out h4)
theorem st_val (h : SE X W e ma) (he : ∀ whole, isTrue e X.env whole = (do let v ← whole; standAt e.pos; holding [v] (truthy v)) := by intro _; rfl) : ST X W e (tB ma) := by
  refine PT.use (pt_val h he) fun σ H Q kf q => ?_
  obtain ⟨ι, S, ρ, rs, er, h⟩ := q kf
  refine fun _ => ⟨ι, S, ρ, rs, er, Out.mono (Out.bind h) fun ι1 S1 H1 dx st1 rs1 h1 x rx => ?_⟩
  cases dx with
  | bl k => cases rx; exact ⟨k, rfl, fun _ => Out.now h1 rs1⟩
  | _ => exact h1.elim
theorem st_not (h : ST X W e ta) : ST X W (.UnaryOp .Not e pos) (tNot ta) := by
  refine PT.use (pt_not h) fun σ H Q kf q => ?_
  obtain ⟨ι, S, ρ, rs, er, h⟩ := q kf
  exact fun _ => ⟨ι, S, ρ, rs, er, Out.mono (Out.bind h) fun ι1 S1 H1 d st1 rs1 h1 => fun _ => Out.now h1 rs1⟩
theorem sw_and1 (h : ST X W e ta) : SW X W (.BoolOp .And [e] pos) ta := pw_and1 h
theorem sw_or1 (h : ST X W e ta) : SW X W (.BoolOp .Or [e] pos) ta := pw_or1 h
theorem sw_and {rest : List Expr} (ha : ST X W a ta) (hb : SW X W (.BoolOp .And (b :: rest) pos) tb) : SW X W (.BoolOp .And (a :: b :: rest) pos) (Mi.tAnd ta tb) := by
  refine PW.use (pw_and ha hb) fun σ H Q kf q => ?_
  obtain ⟨ι, S, ρ, rs, er, h⟩ := q kf
  refine fun _ => ⟨ι, S, ρ, rs, er, Out.mono (Out.bind h) fun ι1 S1 H1 d st1 rs1 h1 => ?_⟩
  cases d with
  | true =>
    rw [if_pos rfl] at h1 ⊢
    exact fun _ => ⟨ι1, S1, ρ, rs1, er.mono st1 rs1, Out.mono h1 fun _ _ _ _ _ _ z _ => z⟩
  | false =>
    rw [if_neg Bool.false_ne_true] at h1 ⊢
    exact fun _ => Out.now h1 rs1
theorem sw_or {rest : List Expr} (ha : ST X W a ta) (hb : SW X W (.BoolOp .Or (b :: rest) pos) tb) : SW X W (.BoolOp .Or (a :: b :: rest) pos) (Mi.tOr ta tb) := by
  refine PW.use (pw_or ha hb) fun σ H Q kf q => ?_
  obtain ⟨ι, S, ρ, rs, er, h⟩ := q kf
  refine fun _ => ⟨ι, S, ρ, rs, er, Out.mono (Out.bind h) fun ι1 S1 H1 d st1 rs1 h1 => ?_⟩
  cases d with
  | false =>
    rw [if_neg Bool.false_ne_true] at h1 ⊢
    exact fun _ => ⟨ι1, S1, ρ, rs1, er.mono st1 rs1, Out.mono h1 fun _ _ _ _ _ _ z _ => z⟩
  | true =>
    rw [if_pos rfl] at h1 ⊢
    exact fun _ => Out.now h1 rs1
theorem st_w (h : SW X W e ta) : ST X W e ta := h.pt
/-! ### tests as values -/
theorem se_cmp {op : CmpOp} {r : R2} {f : D → D → Store → Res Bool} (ho : OpR X (compareOp op) r) (o : OpOk X W r (fB f)) (ha : SE X W a ma) (hb : SE X W b mb) (hm : behindInMarks op b = false) :
    SE X W (.Compare a [op] [b] pos) (eB (tOp2 f ma mb)) := by
  refine PE.use (pe_cmpR ho ha hb hm) fun σ H Q kf q => ?_
  rw [eB_op2] at q
  exact run2 o kf q
theorem se_not (h : SE X W e ma) : SE X W (.UnaryOp .Not e pos) (eB (tNot (tB ma))) := by
  refine PE.use (pe_not h) fun σ H Q kf q => ?_
  obtain ⟨ι, S, ρ, rs, er, h⟩ := q kf
  unfold eB tNot tB at h
  rw [Res.bind_assoc, Res.bind_assoc] at h
  refine fun _ => ⟨ι, S, ρ, rs, er, Out.mono (Out.bind h) fun ι1 S1 H1 dx st1 rs1 h1 x rx => ?_⟩
  cases dx with
  | bl k => cases rx; exact ⟨k, rfl, fun _ => Out.now h1 rs1 _ (.bl _)⟩
  | _ => exact h1.elim
def eAnd (ma mb : EM) : EM := fun ρ S => (ma ρ S).bind fun d S1 => match d with
  | .bl true => mb ρ S1
  | .bl false => .ok (.bl false) S1
  | _ => .bad
def eOr (ma mb : EM) : EM := fun ρ S => (ma ρ S).bind fun d S1 => match d with
  | .bl false => mb ρ S1
  | .bl true => .ok (.bl true) S1
  | _ => .bad
theorem se_one {op} (h : SE X W e ma) : SE X W (.BoolOp op [e] pos) ma := pe_one h
theorem se_and {rest : List Expr} (ha : SE X W a ma) (hb : SE X W (.BoolOp .And (b :: rest) pos) mb) : SE X W (.BoolOp .And (a :: b :: rest) pos) (eAnd ma mb) := by
  refine PE.use (pe_and ha hb) fun σ H Q kf q => ?_
  obtain ⟨ι, S, ρ, rs, er, h⟩ := q kf
  refine fun _ => ⟨ι, S, ρ, rs, er, Out.mono (Out.bind h) fun ι1 S1 H1 dx st1 rs1 h1 x rx => ?_⟩
  cases dx with
  | bl k =>
    cases rx
    refine ⟨k, rfl, ?_⟩
    cases k with
    | true =>
      rw [if_pos rfl]
      exact fun _ => ⟨ι1, S1, ρ, rs1, er.mono st1 rs1, Out.mono (show Out _ _ _ _ _ _ _ _ (mb ρ S1) _ from h1) fun _ _ _ _ _ _ z x r _ => z x r⟩
    | false =>
      rw [if_neg Bool.false_ne_true]
      exact fun _ => Out.now h1 rs1 _ (.bl _)
  | _ => exact h1.elim
theorem se_or {rest : List Expr} (ha : SE X W a ma) (hb : SE X W (.BoolOp .Or (b :: rest) pos) mb) : SE X W (.BoolOp .Or (a :: b :: rest) pos) (eOr ma mb) := by
  refine PE.use (pe_or ha hb) fun σ H Q kf q => ?_
  obtain ⟨ι, S, ρ, rs, er, h⟩ := q kf
  refine fun _ => ⟨ι, S, ρ, rs, er, Out.mono (Out.bind h) fun ι1 S1 H1 dx st1 rs1 h1 x rx => ?_⟩
  cases dx with
  | bl k =>
    cases rx
    refine ⟨k, rfl, ?_⟩
    cases k with
    | false =>
      rw [if_neg Bool.false_ne_true]
      exact fun _ => ⟨ι1, S1, ρ, rs1, er.mono st1 rs1, Out.mono (show Out _ _ _ _ _ _ _ _ (mb ρ S1) _ from h1) fun _ _ _ _ _ _ z x r _ => z x r⟩
    | true =>
      rw [if_pos rfl]
      exact fun _ => Out.now h1 rs1 _ (.bl _)
  | _ => exact h1.elim
theorem se_if (hc : ST X W c tc) (ha : SE X W a ma) (hb : SE X W b mb) : SE X W (.IfExp c a b pos) (Mi.eIf tc ma mb) := by
  refine PE.use (pe_ifExp hc ha hb) fun σ H Q kf q => ?_
  obtain ⟨ι, S, ρ, rs, er, h⟩ := q kf
  refine fun _ => ⟨ι, S, ρ, rs, er, Out.mono (Out.bind h) fun ι1 S1 H1 d st1 rs1 h1 => ?_⟩
  cases d with
  | true =>
    rw [if_pos rfl] at h1 ⊢
    exact fun _ => ⟨ι1, S1, ρ, rs1, er.mono st1 rs1, Out.mono h1 fun _ _ _ _ _ _ z x r _ => z x r⟩
  | false =>
    rw [if_neg Bool.false_ne_true] at h1 ⊢
    exact fun _ => ⟨ι1, S1, ρ, rs1, er.mono st1 rs1, Out.mono h1 fun _ _ _ _ _ _ z x r _ => z x r⟩
end
end Mi
set_option linter.all false
set_option maxRecDepth 100000
namespace Mi
open PySem L2
section
variable {X : Cx} {sc : Scope} {ow : List (Str × NameKind)} {N : List Str} {k : Nat} {W : WE}
variable {a b c e : Expr} {ma mb mc : EM} {tc : TM} {pos : Pos} {st : Stmt} {sts rest : List Stmt} {m m' : SM}
theorem ss_pass : SS X W (.Pass pos) sNext := PS.use ps_pass fun D σ H kf q => by
  obtain ⟨ι, S, ρ, rs, er, h⟩ := q kf
  exact fun _ => h ι σ H .refl rs er
theorem ss_brk : SS X W (.Break pos) sBrk := PS.use ps_break fun D σ H kf q => by
  obtain ⟨ι, S, ρ, rs, er, h⟩ := q kf
  exact fun _ => h ι σ H .refl rs er
theorem ss_cont : SS X W (.Continue pos) sCont := PS.use ps_continue fun D σ H kf q => by
  obtain ⟨ι, S, ρ, rs, er, h⟩ := q kf
  exact fun _ => h ι σ H .refl rs er
/-- code that is never come to -/
theorem ss_bad : SS X W st sBad := PS.use ps_never fun D σ H kf q => by
  obtain ⟨ι, S, ρ, rs, er, h⟩ := q kf
  exact h.elim
theorem ss_nil : SSs X W [] sNext := PSs.use pss_nil fun D σ H kf q => by
  obtain ⟨ι, S, ρ, rs, er, h⟩ := q kf
  exact fun _ => h ι σ H .refl rs er
theorem OutS.ends {P : Program} {w : World} {K : PySem.W.Frag} {ι : Pl} {S : Store} {H : Hp} {r : SRes} {D D' : Ends} (h : OutS P w K W ι S H r D) (h1 : ∀ ι' S' σ ρ H', RS P w K ι' S' H' → EnvR P w K ι' S' ρ σ H' → Step ι S H ι' S' H' → D.nx σ H' → D'.nx σ H') (h2 : ∀ v H', D.rt v H' → D'.rt v H') (h3 : ∀ σ H', D.bk σ H' → D'.bk σ H') (h4 : ∀ σ H', D.ct σ H' → D'.ct σ H') :
    OutS P w K W ι S H r D' := by
  cases r with
  | next ρ S2 => exact fun ι2 σ2 H2 st2 rs er => h1 _ _ _ _ _ rs er st2 (h ι2 σ2 H2 st2 rs er)
  | brk ρ S2 => exact fun ι2 σ2 H2 st2 rs er => h3 _ _ (h ι2 σ2 H2 st2 rs er)
  | cont ρ S2 => exact fun ι2 σ2 H2 st2 rs er => h4 _ _ (h ι2 σ2 H2 st2 rs er)
  | ret d S2 => exact fun ι2 H2 x st2 rs er => h2 _ _ (h ι2 H2 x st2 rs er)
  | ex e ρ S2 => exact h
  | bad => exact h
theorem OutS.kf {P : Program} {w : World} {K : PySem.W.Frag} {ι : Pl} {S : Store} {H : Hp} {r : SRes} {D : Ends} (h : OutS P w K W ι S H r D) : OutS P w K W ι S H r (Ends.kf K D) :=
  h.ends (fun _ _ _ _ _ _ _ _ z _ => z) (fun _ _ z _ => z) (fun _ _ z _ => z) fun _ _ z _ => z
theorem ss_cons (h1 : SS X W st m) (h2 : SSs X W rest m') : SSs X W (st :: rest) (sSeq m m') := by
  refine PSs.use (pss_cons h1 h2) fun D σ H kf q => ?_
  obtain ⟨ι, S, ρ, rs, er, h⟩ := q kf
  refine fun _ => ⟨ι, S, ρ, rs, er, (OutS.seq h).ends (fun ι' S' σ' ρ' H' rs' er' st' z => ?_) (fun _ _ z _ => z) (fun _ _ z _ => z) fun _ _ z _ => z⟩
  obtain ⟨ι2, S2, ρ2, rs2, er2, st2, o⟩ := z
  exact fun _ => ⟨ι2, S2, ρ2, rs2, er2, OutS.kf o⟩
theorem ss_one (h : SS X W st m) : SSs X W [st] m := pss_one h
/-- a value at a name is frozen: no statement of the text -/
theorem ss_frz {i : Nat} (h : SSs X W sts m) : SSs X W sts (sSeq (sFrz i) m) := by
  refine ⟨fun pins s σ H D₀ I q => ?_⟩
  obtain ⟨ι, S, ρ, rs, er, q⟩ := q (invKF I)
  unfold sSeq sFrz at q
  cases e : ρ[i]? with
  | none => rw [e] at q; exact q.elim
  | some od =>
    cases od with
    | none => rw [e] at q; exact q.elim
    | some d =>
      rw [e] at q
      dsimp only at q
      obtain ⟨v, ev, r⟩ := er.env i d e
      have hσ : σ.set i (some v) = σ := by
        obtain ⟨hl, hg⟩ := List.getElem?_eq_some_iff.mp ev
        rw [← hg, List.set_getElem_self]
      -- the new heap, and the way on
      have go : ∀ (S2 : Store) (H2 : Hp) (d2 : Mi.D), Step ι S H ι S2 H2 → RS X.prog X.w X.K ι S2 H2 → Rel X.prog X.w X.K ι S2 H2 v d2 → Inv X pins σ H2 s → OutS X.prog X.w X.K W ι S H (m (ρ.set i (some d2)) S2) D₀ →
          wpAny (model X.prog X.w) X.A (execs sts X.env) (SP X pins D₀) X.xe s := by
        intro S2 H2 d2 st rs2 r2 I2 o
        refine h.run pins s σ H2 D₀ I2 fun _ => ⟨ι, S2, _, rs2, ?_, OutS.trans st o⟩
        have er2 := (er.mono st rs2).set (i := i) r2
        rw [hσ] at er2
        exact er2
      cases d with
      | loc l =>
        cases r with
        | loc ea =>
          rename_i a
          unfold frz at q
          dsimp only at q
          cases z : S[l]? with
          | none => rw [z] at q; exact q.elim
          | some oo =>
            cases oo with
            | none => rw [z] at q; exact q.elim
            | some ob =>
              have obr := rs.obj l a ob ea z
              cases obr with
              | lst eh rl =>
                rw [z] at q
                obtain ⟨st, rs2⟩ := RS.drop (l := l) rs
                exact go _ _ _ st rs2 (.lst (SqL.of eh) (RS.dropMu rs ea z) (RelL.mono st rs2 _ _ rl)) I q
              | dctK eh nd rl =>
                rw [z] at q
                obtain ⟨o, I2⟩ := I.lock eh True.intro
                obtain ⟨st, rs2, nm⟩ := RS.dropO rs ea z
                exact go _ _ _ st rs2 (.dctK upd_same nm nd (RelL.mono st rs2 _ _ rl)) I2 q
              | dctN eh nd kk r1 r2 =>
                rw [z] at q
                obtain ⟨o, I2⟩ := I.lock eh True.intro
                obtain ⟨st, rs2, nm⟩ := RS.dropO rs ea z
                exact go _ _ _ st rs2 (.dctN upd_same nm nd kk (RelL.mono st rs2 _ _ r1) (RelL.mono st rs2 _ _ r2)) I2 q
      | _ => exact go S H _ .refl rs r I q
theorem ss_drop (h : SE X W e ma) (hs : swapsWith e none pos.line X.env = pure false := by rfl) : SS X W (.Expr e pos) (sDrop ma) := by
  refine PS.use (ps_expr h hs) fun D σ H kf q => ?_
  obtain ⟨ι, S, ρ, rs, er, h⟩ := q kf
  exact fun _ => ⟨ι, S, ρ, rs, er, Out.mono (Out.toS er h) fun ι1 S1 H1 d st1 rs1 h1 x rx _ => h1 ι1 σ H1 .refl rs1 (er.mono st1 rs1)⟩
theorem ss_ret (h : SE X W e ma) : SS X W (.Return (some e) pos) (sRet ma) := by
  refine PS.use (ps_ret h) fun D σ H kf q => ?_
  obtain ⟨ι, S, ρ, rs, er, h⟩ := q kf
  exact fun _ => ⟨ι, S, ρ, rs, er, Out.mono (Out.toS er h) fun ι1 S1 H1 d st1 rs1 h1 x rx _ => h1 ι1 H1 x .refl rs1 rx⟩
theorem ss_retN : SS X W (.Return none pos) sRetN := PS.use ps_retN fun D σ H kf q => by
  obtain ⟨ι, S, ρ, rs, er, h⟩ := q kf
  exact fun _ => h ι H .non .refl rs .non
theorem ss_if {p q : List Stmt} (hc : ST X W c tc) (hp : SSs X W p m) (hq : SSs X W q m') : SS X W (.If c p q pos) (sIf tc m m') := by
  refine PS.use (ps_if hc hp hq) fun D σ H kf z => ?_
  obtain ⟨ι, S, ρ, rs, er, h⟩ := z kf
  refine fun _ => ⟨ι, S, ρ, rs, er, Out.mono (Out.toS er h) fun ι1 S1 H1 d st1 rs1 h1 => ?_⟩
  cases d with
  | true =>
    rw [if_pos rfl] at h1 ⊢
    exact fun _ => ⟨ι1, S1, ρ, rs1, er.mono st1 rs1, OutS.kf h1⟩
  | false =>
    rw [if_neg Bool.false_ne_true] at h1 ⊢
    exact fun _ => ⟨ι1, S1, ρ, rs1, er.mono st1 rs1, OutS.kf h1⟩
/-! ### targets -/
def stB (N : List Str) (ow : List (Str × NameKind)) (i : Nat) (x : Str) : Bool := decide (N[i]? = some x) && (decide (ow.lookup x = some .local) || decide (ow.lookup x = some .cell))
theorem sg_name (A : Amb X sc ow N k) {i : Nat} {x : Str} (h : stB N ow i x = true) : SG X W [i] (.Name x pos) (Mi.gName i) := by
  unfold stB at h
  simp only [Bool.and_eq_true, Bool.or_eq_true, decide_eq_true_eq] at h
  obtain ⟨h1, h2⟩ := A.st x h.2
  refine PG.use (pg_name (i := i) (by rw [A.names]; exact A.nd) (by rw [A.names]; exact h.1) h1 h2) fun v σ H Q kf q => ?_
  obtain ⟨ι, S, ρ, d, rs, er, r, o⟩ := q kf
  exact fun _ => o ι _ H .refl rs (er.set r) ⟨List.length_set, fun j hj => List.getElem?_set_ne fun z => hj (by simp [z])⟩
def rGs (P : Program) (w : World) (K : PySem.W.Frag) (W : WE) (st : List Nat) (gs : List GM) : TGs := fun vs σ H Q => KF K H → ∃ ι S ρ ds, RS P w K ι S H ∧ EnvR P w K ι S ρ σ H ∧ RelL P w K ι S H vs ds ∧ OutS P w K W ι S H (Mi.gSeq gs ds ρ S) ⟨fun σ' H' => Else st σ σ' → Q σ' H', fun _ _ => False, fun _ _ => False, fun _ _ => False⟩
abbrev SGs (X : Cx) (W : WE) (st : List Nat) (es : List Expr) (gs : List GM) : Prop := PGs X es (rGs X.prog X.w X.K W st gs)
theorem PGs.use {es : List Expr} {t t' : TGs} (h : PGs X es t) (i : ∀ v σ H Q, KF X.K H → t' v σ H Q → t v σ H fun σ' H' => KF X.K H' → Q σ' H') : PGs X es t' :=
  ⟨fun pins s σ H v u Q I r q => thn (h.run pins s σ H v u _ I r (i v σ H Q (invKF I) q)) fun _ _ ⟨σ', H', I', f⟩ => ⟨σ', H', I', f (invKF I')⟩⟩
theorem sgs_nil : SGs X W [] [] [] := by
  refine PGs.use pgs_nil fun v σ H Q kf q => ?_
  obtain ⟨ι, S, ρ, ds, rs, er, r, o⟩ := q kf
  cases r with
  | nil => exact ⟨rfl, fun _ => o ι σ H .refl rs er .refl⟩
  | cons _ _ => exact o.elim
theorem sgs_cons {es : List Expr} {g : GM} {gs : List GM} {s1 s2 : List Nat} (hg : SG X W s1 e g) (hr : SGs X W s2 es gs) (hs : (assignEach (e :: es) X.env).map (·.2) = assign e X.env :: (assignEach es X.env).map (·.2) := by rfl) : SGs X W (s1 ++ s2) (e :: es) (g :: gs) := by
  refine PGs.use (pgs_cons hg hr hs) fun v σ H Q kf q => ?_
  obtain ⟨ι, S, ρ, ds, rs, er, r, o⟩ := q kf
  cases r with
  | nil => exact o.elim
  | cons r1 r2 =>
    rename_i d ds
    refine ⟨_, _, rfl, fun _ => ⟨ι, S, ρ, _, rs, er, r1, (OutS.seq o).ends (fun ι1 S1 σ1 ρ1 H1 rs1 er1 st1 z => ?_) (fun _ _ z => z.elim) (fun _ _ z => z.elim) fun _ _ z => z.elim⟩⟩
    obtain ⟨ι2, S2, ρ2, rs2, er2, st2, o2⟩ := z
    exact fun el1 _ => ⟨ι2, S2, ρ2, ds, rs2, er2, RelL.mono st2 rs2 _ _ r2, o2.ends (fun _ _ _ _ _ _ _ _ z el2 _ => z ⟨el2.1.trans el1.1, fun j hj => (el2.2 j fun q => hj (List.mem_append_right _ q)).trans (el1.2 j fun q => hj (List.mem_append_left _ q))⟩) (fun _ _ z => z.elim) (fun _ _ z => z.elim) fun _ _ z => z.elim⟩
theorem sg_tup (A : Amb X sc ow N k) {es : List Expr} {gs : List GM} {kk : Nat} {st : List Nat} (h : SGs X W st es gs) (hst : (assignEach es X.env).findIdx? (·.1) = none := by rfl) (hl : (assignEach es X.env).length = gs.length := by rfl) : SG X W st (.Tuple es kk pos) (Mi.gTup gs) := by
  refine PG.use (pg_tup (n := gs.length) A.calm h hl hst) fun v σ H Q kf q => ?_
  obtain ⟨ι, S, ρ, d, rs, er, r, o⟩ := q kf
  cases d with
  | tup l =>
    cases r with
    | tup e nm rl =>
      unfold Mi.gTup at o
      dsimp only at o
      by_cases z : l.length = gs.length
      · rw [if_pos z] at o
        refine ⟨_, _, rfl, SqT.of e, (RelL.length rl).trans z, fun _ => ⟨ι, S, ρ, l, rs, er, rl, o.ends (fun _ _ _ _ _ _ _ _ z el _ => z el) (fun _ _ z => z.elim) (fun _ _ z => z.elim) fun _ _ z => z.elim⟩⟩
      · rw [if_neg z] at o
        exact o.elim
  | _ => exact o.elim
/-- o[i] = v, by values -/
def SetOk (X : Cx) (W : WE) (r : TSet) (f : D → D → D → Store → Res Unit) : Prop := ∀ (σ : St) (ι : Pl) (S : Store) (H : Hp) (x y z : V) (dx dy dz : D) (Q : Hp → Prop), RS X.prog X.w X.K ι S H → Rel X.prog X.w X.K ι S H x dx → Rel X.prog X.w X.K ι S H y dy → Rel X.prog X.w X.K ι S H z dz →
  Out X.prog X.w X.K W σ ι S H (f dx dy dz S) (fun ι' S' H' _ => Q H') → r x y z H fun H' => KF X.K H' → Q H'
theorem sg_sub {r : TSet} {f : D → D → D → Store → Res Unit} (hp : PSet X r) (o : SetOk X W r f) (ha : SE X W a ma) (hb : SE X W b mb)
    (has : ∀ v, assign (.Subscript a b pos) X.env v = (do
      let ov ← holding [v] (eval a X.env)
      let iv ← holding [v, ov] (eval b X.env)
      standAt pos
      holding [v, ov, iv] (setItem ov iv v)
      release [v, ov, iv] []) := by intro _; rfl) : SG X W [] (.Subscript a b pos) (Mi.gSub f ma mb) := by
  refine PG.use (pg_sub ha hb hp has) fun v σ H Q kf q => ?_
  obtain ⟨ι, S, ρ, d, rs, er, r, h⟩ := q kf
  have h := Out.toS er h
  refine fun _ => ⟨ι, S, ρ, rs, er, Out.mono (Out.bind h) fun ι1 S1 H1 dx st1 rs1 h1 x rx => ?_⟩
  refine fun _ => ⟨ι1, S1, ρ, rs1, er.mono st1 rs1, Out.mono (Out.bind h1) fun ι2 S2 H2 dy st2 rs2 h2 y ry => ?_⟩
  refine o σ ι2 S2 H2 x y v dx dy d (fun H' => Q σ H') rs2 (Rel.mono st2 rs2 _ _ rx) ry (Rel.mono (st1.trans st2) rs2 _ _ r) (Out.mono h2 fun ι3 S3 H3 _ st3 rs3 h3 => ?_)
  exact h3 ι3 σ H3 .refl rs3 (((er.mono st1 rs1).mono st2 rs2).mono st3 rs3) .refl
/-! ### assignments -/
def envC (sc : Scope) : PySem.Env := { scope := sc, locals := 0, globals := 0, cells := [] }
theorem swaps_scope {v : Expr} {t : Option Expr} {l : Nat} {env env' : PySem.Env} (h : env.scope = env'.scope) : swapsWith v t l env = swapsWith v t l env' := by
  unfold swapsWith Env.blockKind Env.kindOf
  rw [h]
theorem sole_scope {ts : List Expr} {v : Expr} {l : Nat} {env env' : PySem.Env} (h : env.scope = env'.scope) : swapsWithSole ts v l env = swapsWithSole ts v l env' := by
  unfold swapsWithSole
  split
  · exact swaps_scope h
  · rfl
theorem stores_scope {ts : List Expr} {v : Expr} {env env' : PySem.Env} (h : env.scope = env'.scope) : swappedStores ts v env = swappedStores ts v env' := by
  unfold swappedStores Env.blockKind Env.kindOf
  rw [h]
theorem Amb.env (A : Amb X sc ow N k) : X.env.scope = (envC sc).scope := A.scope
theorem OutS.only {P : Program} {w : World} {K : PySem.W.Frag} {ι : Pl} {S : Store} {H : Hp} {r : SRes} {D : Ends} (h : OutS P w K W ι S H r.only D) : OutS P w K W ι S H r ⟨D.nx, fun _ _ => False, fun _ _ => False, fun _ _ => False⟩ := by
  cases r with
  | next ρ S2 => exact h
  | ex e ρ S2 => exact h
  | _ => exact h.elim
theorem ss_set (A : Amb X sc ow N k) {i : Nat} {x : Str} {pos' : Pos} (h : stB N ow i x = true) (he : SE X W e ma) (hs : swapsWith e (some (.Name x pos')) pos.line (envC sc) = pure false := by rfl) : SS X W (.Assign [.Name x pos'] e pos) (sAsg ma (Mi.gName i)) := by
  unfold stB at h
  simp only [Bool.and_eq_true, Bool.or_eq_true, decide_eq_true_eq] at h
  obtain ⟨h1, h2⟩ := A.st x h.2
  refine PS.use (ps_set (i := i) (by rw [A.names]; exact A.nd) (by rw [A.names]; exact h.1) h1 he (by rw [swaps_scope A.env]; exact hs) h2) fun D σ H kf q => ?_
  obtain ⟨ι, S, ρ, rs, er, h⟩ := q kf
  exact fun _ => ⟨ι, S, ρ, rs, er, Out.mono (Out.toS er h) fun ι1 S1 H1 d st1 rs1 h1 x rx kf2 => h1 ι1 _ H1 .refl rs1 ((er.mono st1 rs1).set rx)⟩
theorem ss_asg (A : Amb X sc ow N k) {tg : Expr} {g : GM} {gst : List Nat} (he : SE X W e ma) (hg : SG X W gst tg g) (hs : swapsWithSole [tg] e pos.line (envC sc) = pure false := by rfl) (hw : swappedStores [tg] e (envC sc) = pure none := by rfl)
    (h1 : (assignEach [tg] X.env).map (·.2) = [assign tg X.env] := by rfl) : SS X W (.Assign [tg] e pos) (sAsg ma g) := by
  refine PS.use (ps_asg he hg (by rw [sole_scope A.env]; exact hs) (by rw [stores_scope A.env]; exact hw) h1) fun D σ H kf q => ?_
  obtain ⟨ι, S, ρ, rs, er, h⟩ := q kf
  refine fun _ => ⟨ι, S, ρ, rs, er, Out.mono (Out.toS er h) fun ι1 S1 H1 d st1 rs1 h1 x rx => ?_⟩
  exact fun _ => ⟨ι1, S1, ρ, d, rs1, er.mono st1 rs1, rx, (OutS.only h1).ends (fun _ _ _ _ _ _ _ _ z _ _ => z) (fun _ _ z => z.elim) (fun _ _ z => z.elim) fun _ _ z => z.elim⟩
/-! a, b = x, y: stored from the right -/
theorem ss_par (A : Amb X sc ow N k) {i j : Nat} {x y : Str} {r : AM} {px py pt : Pos} {kt k2 : Nat} {pt2 : Pos} (h : (decide (N[i]? = some x) && decide (N[j]? = some y) && decide (i ≠ j) && decide (sc.names.lookup x = some .local) && decide (sc.names.lookup y = some .local)) = true)
    (ha : SA X W [a, b] r) (hw : swappedStores [.Tuple [.Name x px, .Name y py] kt pt] (.Tuple [a, b] k2 pt2) (envC sc) = pure (some [x, y])) :
    SS X W (.Assign [.Tuple [.Name x px, .Name y py] kt pt] (.Tuple [a, b] k2 pt2) pos) (sPar [i, j] r) := by
  simp only [Bool.and_eq_true, decide_eq_true_eq] at h
  obtain ⟨⟨⟨⟨h1, h2⟩, h3⟩, h4⟩, h5⟩ := h
  refine PS.use (ps_par (i := i) (j := j) A.calm (by rw [A.names]; exact A.nd) (by rw [A.names]; exact h1) (by rw [A.names]; exact h2) h3 (by rw [A.scope]; exact h4) (by rw [A.scope]; exact h5) ha (by rw [stores_scope A.env]; exact hw)) fun D σ H kf q => ?_
  obtain ⟨ι, S, ρ, rs, er, h⟩ := q kf
  refine fun _ => ⟨ι, S, ρ, rs, er, Out.mono (Out.toS er h) fun ι1 S1 H1 ds st1 rs1 h1 xs rx => ?_⟩
  by_cases z : ds.length = 2
  · rw [if_pos (show ds.length = [i, j].length from z)] at h1
    match ds, z, rx, h1 with
    | [d1, d2], _, .cons r1 (.cons r2 .nil), h1 =>
      exact ⟨_, _, rfl, fun _ => h1 ι1 _ H1 .refl rs1 (((er.mono st1 rs1).set r1).set r2)⟩
  · rw [if_neg (show ¬ ds.length = [i, j].length from z)] at h1
    exact h1.elim
theorem ss_par3 (A : Amb X sc ow N k) {i j l : Nat} {x y z : Str} {r : AM} {px py pz pt : Pos} {kt k2 : Nat} {pt2 : Pos} (h : (decide (N[i]? = some x) && decide (N[j]? = some y) && decide (N[l]? = some z) && decide (i ≠ j) && decide (i ≠ l) && decide (j ≠ l) && decide (sc.names.lookup x = some .local) && decide (sc.names.lookup y = some .local) && decide (sc.names.lookup z = some .local)) = true)
    (ha : SA X W [a, b, c] r) (hw : swappedStores [.Tuple [.Name x px, .Name y py, .Name z pz] kt pt] (.Tuple [a, b, c] k2 pt2) (envC sc) = pure (some [x, y, z])) :
    SS X W (.Assign [.Tuple [.Name x px, .Name y py, .Name z pz] kt pt] (.Tuple [a, b, c] k2 pt2) pos) (sPar [i, j, l] r) := by
  simp only [Bool.and_eq_true, decide_eq_true_eq] at h
  obtain ⟨⟨⟨⟨⟨⟨⟨⟨h1, h2⟩, h3⟩, h4⟩, h5⟩, h6⟩, h7⟩, h8⟩, h9⟩ := h
  refine PS.use (ps_par3 (i := i) (j := j) (l := l) A.calm (by rw [A.names]; exact A.nd) (by rw [A.names]; exact h1) (by rw [A.names]; exact h2) (by rw [A.names]; exact h3) h4 h5 h6 (by rw [A.scope]; exact h7) (by rw [A.scope]; exact h8) (by rw [A.scope]; exact h9) ha (by rw [stores_scope A.env]; exact hw) (by rfl)) fun D σ H kf q => ?_
  obtain ⟨ι, S, ρ, rs, er, h⟩ := q kf
  refine fun _ => ⟨ι, S, ρ, rs, er, Out.mono (Out.toS er h) fun ι1 S1 H1 ds st1 rs1 h1 xs rx => ?_⟩
  by_cases z : ds.length = 3
  · rw [if_pos (show ds.length = [i, j, l].length from z)] at h1
    match ds, z, rx, h1 with
    | [d1, d2, d3], _, .cons r1 (.cons r2 (.cons r3 .nil)), h1 =>
      exact ⟨_, _, _, rfl, fun _ => h1 ι1 _ H1 .refl rs1 ((((er.mono st1 rs1).set r1).set r2).set r3)⟩
  · rw [if_neg (show ¬ ds.length = [i, j, l].length from z)] at h1
    exact h1.elim
end
end Mi
set_option linter.all false
set_option maxRecDepth 100000
namespace Mi
open PySem L2
/-- an iterator that yields the items ds, whatever happens to what may change; and how it begins -/
structure ItR (P : Program) (w : World) (K : PySem.W.Frag) (ι : Pl) (S : Store) (H : Hp) (J : It) (ds : List D) : Prop where
  turns : ∀ (i : Nat) (ι2 : Pl) (S2 : Store) (H2 : Hp), StepW ι S H ι2 S2 H2 → RS P w K ι2 S2 H2 →
    (∀ d, ds[i]? = some d → J.go i H2 ∧ ∀ x H3, J.yld i H2 x H3 → KF K H3 → Step ι2 S2 H2 ι2 S2 H3 ∧ RS P w K ι2 S2 H3 ∧ Rel P w K ι2 S2 H3 x d) ∧ (i = ds.length → J.stop i H2)
  first : ∀ H2 : Hp, (∀ a o, H a = some o → H2 a = some o) → (ds ≠ [] → J.go 0 H2) ∧ (ds = [] → J.stop 0 H2) ∧ ∀ x H3, J.yld 0 H2 x H3 → ∀ a o, H2 a = some o → H3 a = some o
def rI (P : Program) (w : World) (K : PySem.W.Frag) (W : WE) (m : AM) : TI := fun σ H R => KF K H → ∃ ι S ρ, RS P w K ι S H ∧ EnvR P w K ι S ρ σ H ∧ Out P w K W σ ι S H (m ρ S) fun ι' S' H' ds => ∀ J, ItR P w K ι' S' H' J ds → R J H'
abbrev SI (X : Cx) (W : WE) (tg e : Expr) (m : AM) : Prop := PI X tg e (rI X.prog X.w X.K W m)
section
variable {X : Cx} {sc : Scope} {ow : List (Str × NameKind)} {N : List Str} {k : Nat} {W : WE}
variable {a b c e : Expr} {ma mb mc : EM} {tc : TM} {pos : Pos} {st : Stmt} {sts rest : List Stmt} {m m' : SM}
theorem PI.use {tg : Expr} {t t' : TI} (h : PI X tg e t) (i : ∀ σ H Q, KF X.K H → t' σ H Q → t σ H Q) : PI X tg e t' := ⟨fun pins s σ H R I q => h.run pins s σ H R I (i σ H R (invKF I) q)⟩
/-- the way on from a turn to the loop's rest -/
def goesOn (P : Program) (w : World) (K : PySem.W.Frag) (W : WE) (ι : Pl) (S0 : Store) (H : Hp) (D0 : Ends) (f : Env → Store → SRes) : St → Hp → Prop := fun σ' H' => ∃ ι' S' ρ', RS P w K ι' S' H' ∧ EnvR P w K ι' S' ρ' σ' H' ∧ Step ι S0 H ι' S' H' ∧ OutS P w K W ι' S' H' (f ρ' S') D0
/-- what a loop's rest wants of one turn -/
theorem loop_turn {P : Program} {w : World} {K : PySem.W.Frag} {ι : Pl} {S S0 : Store} {H : Hp} {body : D → SM} {d : D} {ds : List D} {ρ : Env} {D0 : Ends} (h : OutS P w K W ι S0 H (loop body (d :: ds) ρ S) D0) :
    OutS P w K W ι S0 H (body d ρ S) ⟨goesOn P w K W ι S0 H D0 (loop body ds), D0.rt, D0.nx, goesOn P w K W ι S0 H D0 (loop body ds)⟩ := by
  unfold loop at h
  revert h
  cases body d ρ S with
  | next ρ1 S1 => exact fun h ι' σ' H' st rs er => ⟨ι', S1, ρ1, rs, er, st, OutS.trans st h⟩
  | cont ρ1 S1 => exact fun h ι' σ' H' st rs er => ⟨ι', S1, ρ1, rs, er, st, OutS.trans st h⟩
  | brk ρ1 S1 => exact fun h => h
  | ret d1 S1 => exact fun h => h
  | ex e ρ1 S1 => exact fun h => h
  | bad => exact fun h => h
theorem loop_go {P : Program} {w : World} {K : PySem.W.Frag} {ι : Pl} {S S0 : Store} {H : Hp} {g : GM} {m : SM} {d : D} {ρ : Env} {D0 : Ends} (h : OutS P w K W ι S0 H ((g d ρ S).only.seq m) D0) :
    OutS P w K W ι S0 H (g d ρ S) ⟨goesOn P w K W ι S0 H D0 m, fun _ _ => False, fun _ _ => False, fun _ _ => False⟩ := by
  revert h
  cases g d ρ S with
  | next ρ1 S1 => exact fun h ι' σ' H' st rs er => ⟨ι', S1, ρ1, rs, er, st, OutS.trans st h⟩
  | ex e ρ1 S1 => exact fun h => h
  | brk ρ1 S1 => exact fun h => h.elim
  | ret d1 S1 => exact fun h => h.elim
  | cont ρ1 S1 => exact fun h => h.elim
  | bad => exact fun h => h
theorem ss_for (A : Amb X sc ow N k) {tg iter : Expr} {body : List Stmt} {it : AM} {g : GM} {gst : List Nat} (hi : SI X W tg iter it) (hg : SG X W gst tg g) (hb : SSs X W body m) (hs : ∀ x, foldedSetIterable iter X.env x = pure x := by intro _; rfl) :
    SS X W (.For tg iter body [] pos) (sFor it g m) := by
  refine PS.use (ps_for A.pass A.calm hi hg hb hs) fun D σ H kf q => ?_
  obtain ⟨ι, S, ρ, rs, er, h⟩ := q kf
  refine fun _ => ⟨ι, S, ρ, rs, er, Out.mono (Out.toS er h) fun ι1 S1 H1 ds st1 rs1 hO J hJ => ?_⟩
  have er1 := er.mono st1 rs1
  refine ⟨fun i n σ' H' => ∃ ι2 S2 ρ2, RS X.prog X.w X.K ι2 S2 H' ∧ EnvR X.prog X.w X.K ι2 S2 ρ2 σ' H' ∧ Step ι1 S1 H1 ι2 S2 H' ∧ i + n = ds.length ∧ OutS X.prog X.w X.K W ι2 S2 H' (loop (fun d ρ S => (g d ρ S).only.seq m) (ds.drop i) ρ2 S2) (Ends.kf X.K D),
    ⟨ds.length, ι1, S1, ρ, rs1, er1, .refl, by simp, OutS.kf hO⟩, ?_⟩
  rintro i n σ' H' ⟨ι2, S2, ρ2, rs2, er2, st2, hn, o⟩
  obtain ⟨hgo, hstop⟩ := hJ.turns i ι2 S2 H' st2.toStepW rs2
  cases e : ds[i]? with
  | none =>
    have hl : ds.length ≤ i := List.getElem?_eq_none_iff.mp e
    rw [List.drop_eq_nil_of_le hl] at o
    exact .inl ⟨hstop (by omega), o ι2 σ' H' .refl rs2 er2⟩
  | some d =>
    have hl : i < ds.length := (List.getElem?_eq_some_iff.mp e).1
    have hd : ds.drop i = d :: ds.drop (i + 1) := by
      rw [List.drop_eq_getElem_cons hl]
      congr 1
      exact (List.getElem?_eq_some_iff.mp e).2
    rw [hd] at o
    obtain ⟨go, yld⟩ := hgo d e
    refine .inr ⟨go, fun σ'' H'' => ∃ ι3 S3 ρ3, RS X.prog X.w X.K ι3 S3 H'' ∧ EnvR X.prog X.w X.K ι3 S3 ρ3 σ'' H'' ∧ Step ι2 S2 H' ι3 S3 H'' ∧ OutS X.prog X.w X.K W ι3 S3 H'' (loop (fun d ρ S => (g d ρ S).only.seq m) (ds.drop (i + 1)) ρ3 S3) (Ends.kf X.K D), fun σ'' H'' z => ?_, fun x H3 hy => ?_⟩
    · obtain ⟨ι3, S3, ρ3, rs3, er3, st3, o3⟩ := z
      exact ⟨n - 1, by omega, ι3, S3, ρ3, rs3, er3, st2.trans st3, by omega, o3⟩
    · intro kf3
      obtain ⟨st3, rs3, rx⟩ := yld x H3 hy kf3
      have o2 := OutS.trans st3 (loop_go (loop_turn o))
      refine ⟨ι2, S2, ρ2, d, rs3, er2.mono st3 rs3, rx, o2.ends (fun ι4 S4 σ4 ρ4 H4 rs4 er4 st4 z => ?_) (fun _ _ z => z.elim) (fun _ _ z => z.elim) fun _ _ z => z.elim⟩
      obtain ⟨ι5, S5, ρ5, rs5, er5, st5, o5⟩ := z
      refine fun _ _ => ⟨ι5, S5, ρ5, rs5, er5, o5.ends (fun ι6 S6 σ6 ρ6 H6 rs6 er6 st6 z => ?_) (fun _ _ z => z) (fun _ _ z => z) fun _ _ z => ?_⟩
      · obtain ⟨ι7, S7, ρ7, rs7, er7, st7, o7⟩ := z
        exact ⟨ι7, S7, ρ7, rs7, er7, st7, o7⟩
      · obtain ⟨ι7, S7, ρ7, rs7, er7, st7, o7⟩ := z
        exact ⟨ι7, S7, ρ7, rs7, er7, st7, o7⟩
/-! ### while -/
theorem while_turn {P : Program} {w : World} {K : PySem.W.Frag} {ι : Pl} {S S0 : Store} {H : Hp} {n : Nat} {ρ : Env} {D0 : Ends} (h : OutS P w K W ι S0 H (match m ρ S with
      | .next ρ1 S2 => whileN tc m n ρ1 S2
      | .cont ρ1 S2 => whileN tc m n ρ1 S2
      | .brk ρ1 S2 => .next ρ1 S2
      | r => r) D0) :
    OutS P w K W ι S0 H (m ρ S) ⟨goesOn P w K W ι S0 H D0 (whileN tc m n), D0.rt, D0.nx, goesOn P w K W ι S0 H D0 (whileN tc m n)⟩ := by
  revert h
  cases m ρ S with
  | next ρ1 S1 => exact fun h ι' σ' H' st rs er => ⟨ι', S1, ρ1, rs, er, st, OutS.trans st h⟩
  | cont ρ1 S1 => exact fun h ι' σ' H' st rs er => ⟨ι', S1, ρ1, rs, er, st, OutS.trans st h⟩
  | brk ρ1 S1 => exact fun h => h
  | ret d1 S1 => exact fun h => h
  | ex e ρ1 S1 => exact fun h => h
  | bad => exact fun h => h
theorem ss_while (A : Amb X sc ow N k) {body : List Stmt} (n : Nat) (hc : ST X W c tc) (hb : SSs X W body m) : SS X W (.While c body [] pos) (whileN tc m n) := by
  refine PS.use (ps_while A.pass hc hb) fun D σ H kf q => ?_
  obtain ⟨ι, S, ρ, rs, er, h⟩ := q kf
  refine ⟨fun n σ' H' => ∃ ι2 S2 ρ2, RS X.prog X.w X.K ι2 S2 H' ∧ EnvR X.prog X.w X.K ι2 S2 ρ2 σ' H' ∧ OutS X.prog X.w X.K W ι2 S2 H' (whileN tc m n ρ2 S2) (Ends.kf X.K D), ⟨n, ι, S, ρ, rs, er, OutS.kf h⟩, ?_⟩
  rintro n σ' H' ⟨ι2, S2, ρ2, rs2, er2, o⟩
  cases n with
  | zero => exact o.elim
  | succ n =>
    unfold whileN at o
    refine fun _ => ⟨ι2, S2, ρ2, rs2, er2, Out.mono (Out.toS er2 o) fun ι3 S3 H3 b st3 rs3 h3 => ?_⟩
    have er3 := er2.mono st3 rs3
    cases b with
    | false =>
      rw [if_neg Bool.false_ne_true] at h3
      dsimp only
      rw [if_neg Bool.false_ne_true]
      exact h3 ι3 σ' H3 .refl rs3 er3
    | true =>
      rw [if_pos rfl] at h3
      dsimp only
      rw [if_pos rfl]
      refine ⟨fun σ'' H'' => ∃ ι4 S4 ρ4, RS X.prog X.w X.K ι4 S4 H'' ∧ EnvR X.prog X.w X.K ι4 S4 ρ4 σ'' H'' ∧ OutS X.prog X.w X.K W ι4 S4 H'' (whileN tc m n ρ4 S4) (Ends.kf X.K D), fun σ'' H'' ⟨ι4, S4, ρ4, rs4, er4, o4⟩ => ⟨n, by omega, ι4, S4, ρ4, rs4, er4, o4⟩, fun _ => ⟨ι3, S3, ρ2, rs3, er3, ?_⟩⟩
      refine (while_turn h3).ends (fun ι4 S4 σ4 ρ4 H4 rs4 er4 st4 z => ?_) (fun _ _ z => z) (fun _ _ z => z) fun _ _ z => ?_
      · obtain ⟨ι5, S5, ρ5, rs5, er5, _, o5⟩ := z
        exact ⟨ι5, S5, ρ5, rs5, er5, o5⟩
      · obtain ⟨ι5, S5, ρ5, rs5, er5, _, o5⟩ := z
        exact ⟨ι5, S5, ρ5, rs5, er5, o5⟩
/-! ### what is walked -/
theorem it_list {P : Program} {w : World} {K : PySem.W.Frag} {ι : Pl} {S : Store} {H : Hp} {p : Addr} {xs : List V} {ds : List D} (e : SqL K H p xs) (nm : ¬ Mu ι S p) (r : RelL P w K ι S H xs ds) : ItR P w K ι S H (Itl K p) ds where
  turns := by
    intro i ι2 S2 H2 st rs2
    obtain ⟨e2, nm2⟩ := st.sqL (fun _ => rs2.mu) e nm
    have r2 := RelL.monoW st rs2 _ _ r
    refine ⟨fun d hd => ?_, fun hl => ⟨xs, e2, by rw [RelL.length r2, hl]; exact Nat.le_refl _⟩⟩
    obtain ⟨v, hv, rv⟩ := r2.get hd
    refine ⟨⟨xs, v, e2, hv⟩, fun x H3 ⟨eh, hx⟩ _ => ?_⟩
    subst eh
    have := hx xs e2
    rw [hv] at this
    cases this
    exact ⟨.refl, rs2, rv⟩
  first := by
    intro H2 kp
    have e2 := sqKeep kp e
    refine ⟨fun hn => ?_, fun hn => ⟨xs, e2, by rw [RelL.length r, hn]; exact Nat.le_refl _⟩, fun x H3 ⟨eh, _⟩ a o z => by subst eh; exact z⟩
    cases r with
    | nil => exact absurd rfl hn
    | cons r1 r2 => exact ⟨_, _, e2, rfl⟩
theorem it_tup {P : Program} {w : World} {K : PySem.W.Frag} {ι : Pl} {S : Store} {H : Hp} {p : Addr} {xs : List V} {ds : List D} (e : H p = some (.tup xs)) (nm : ¬ Mu ι S p) (r : RelL P w K ι S H xs ds) : ItR P w K ι S H (Itt K p) ds where
  turns := by
    intro i ι2 S2 H2 st rs2
    obtain ⟨e2, nm2⟩ := st.keep _ _ e nm
    have r2 := RelL.monoW st rs2 _ _ r
    refine ⟨fun d hd => ?_, fun hl => ⟨xs, SqT.of e2, by rw [RelL.length r2, hl]; exact Nat.le_refl _⟩⟩
    obtain ⟨v, hv, rv⟩ := r2.get hd
    refine ⟨⟨xs, v, SqT.of e2, hv⟩, fun x H3 ⟨eh, hx⟩ _ => ?_⟩
    subst eh
    have := hx xs (SqT.of e2)
    rw [hv] at this
    cases this
    exact ⟨.refl, rs2, rv⟩
  first := by
    intro H2 kp
    have e2 := kp _ _ e
    refine ⟨fun hn => ?_, fun hn => ⟨xs, SqT.of e2, by rw [RelL.length r, hn]; exact Nat.le_refl _⟩, fun x H3 ⟨eh, _⟩ a o z => by subst eh; exact z⟩
    cases r with
    | nil => exact absurd rfl hn
    | cons r1 r2 => exact ⟨_, _, SqT.of e2, rfl⟩
theorem intsD_get : ∀ (n : Nat) (lo : Int) (i : Nat), (intsD lo n)[i]? = if i < n then some (.int (lo + i)) else none
  | 0, lo, i => by simp [intsD]
  | n + 1, lo, 0 => by simp [intsD]
  | n + 1, lo, i + 1 => by
    have := intsD_get n (lo + 1) i
    simp only [intsD, List.getElem?_cons_succ, this]
    by_cases h : i < n
    · rw [if_pos h, if_pos (by omega)]
      congr 2
      omega
    · rw [if_neg h, if_neg (by omega)]
theorem intsD_len : ∀ (n : Nat) (lo : Int), (intsD lo n).length = n
  | 0, lo => rfl
  | n + 1, lo => by simp [intsD, intsD_len n]
theorem it_rng {P : Program} {w : World} {K : PySem.W.Frag} {ι : Pl} {S : Store} {H : Hp} {lo : Int} {n : Nat} : ItR P w K ι S H (Itr lo n) (intsD lo n) where
  turns := by
    intro i ι2 S2 H2 st rs2
    refine ⟨fun d hd => ?_, fun hl => by rw [intsD_len] at hl; exact Nat.le_of_eq hl.symm⟩
    rw [intsD_get] at hd
    by_cases h : i < n
    · rw [if_pos h] at hd
      cases hd
      refine ⟨h, fun x H3 ⟨eh, hx⟩ _ => ?_⟩
      subst eh hx
      exact ⟨.refl, rs2, .int _⟩
    · rw [if_neg h] at hd; cases hd
  first := by
    intro H2 kp
    refine ⟨fun hn => ?_, fun hn => ?_, fun x H3 ⟨eh, _⟩ a o z => by subst eh; exact z⟩
    · cases n with
      | zero => exact absurd rfl hn
      | succ n => exact Nat.succ_pos n
    · cases n with
      | zero => exact Nat.le_refl 0
      | succ n => cases hn
end
end Mi
set_option linter.all false
set_option maxRecDepth 100000
/-! Mi, part H: what a for loop or a comprehension walks. -/
namespace Mi
open PySem L2 PySem.Spec PyProof.Rows
section
variable {X : Cx} {sc : Scope} {ow : List (Str × NameKind)} {N : List Str} {k : Nat} {W : WE}
variable {a b c e tg : Expr} {ma mb mc : EM} {tc : TM} {pos : Pos}
theorem rngB_of {lo hi : Int} (h : rngB lo hi = true) : -(2 ^ 62) ≤ lo ∧ lo < 2 ^ 62 ∧ -(2 ^ 62) ≤ hi ∧ hi < 2 ^ 62 := by
  unfold rngB at h
  simp only [Bool.and_eq_true, decide_eq_true_eq] at h
  omega
/-- a range object that stood, walked -/
theorem rng_walked {pins : List (Addr × Obj)} {σ : L2.St} {H : Hp} {s : Shared} {R : It → Hp → Prop} {r : Addr} {lo hi : Int} (I : Inv X pins σ H s) (e : H r = some (.rng lo hi)) (hb : rngB lo hi = true) (q : R (Itr lo (hi - lo).toNat) H) :
    wpAny (model X.prog X.w) X.A (pyIter (.ref r)) (PIE X pins σ tg R) X.xe s := by
  obtain ⟨h1, h2, h3, h4⟩ := rngB_of hb
  obtain ⟨t, u, v, ho⟩ : ∃ t u v, s.heap.get? r = some { cls := .type "range", data := .fields #[.int lo t, .int hi u, .int 1 v] } := I.hok r _ e
  refine wpAny_pyIter_range (t := t) (u := u) (v := v) ho (small_one h1 h2 h3 h4) ?_
  refine ⟨s.heap.objs.size, [s.heap.objs.size], _, _, H, rfl, I.kept (t' := s.toks) (fun b o q => Heap.get?_push_of_some _ q), turn_range _ lo (hi - lo).toNat, ?_, fun b hb => ?_, q⟩
  · have e1 : lo + ((0 : Nat) : Int) * 1 = lo := by simp
    have e2 : (((hi - lo).toNat : Nat) : Int) - ((0 : Nat) : Int) = Builtin.Range.rangeSize lo hi 1 := by
      rw [rangeSize_one]
      split <;> omega
    show IsRangeIter _ _ (lo + ((0 : Nat) : Int) * 1) ((((hi - lo).toNat : Nat) : Int) - ((0 : Nat) : Int)) 1
    rw [e1, e2]
    exact Heap.get?_push_size _ rfl
  · have e : b = s.heap.objs.size := by simpa using hb
    subst e
    exact I.fpOk (Nat.le_refl _) (I.hok.fresh (Nat.le_refl _))
/-- a value that is walked: a list, a tuple, a range -/
theorem si_of (ha : SE X W e ma) : SI X W tg e (iOf ma) := by
  refine ⟨fun pins s σ H R I q => ?_⟩
  obtain ⟨ι, S, ρ, rs, er, o⟩ := q (invKF I)
  refine thn (ha.run pins s σ H (fun x H1 => ∃ ι1 S1 dx, RS X.prog X.w X.K ι1 S1 H1 ∧ Rel X.prog X.w X.K ι1 S1 H1 x dx ∧ Out X.prog X.w X.K W σ ι1 S1 H1 (items dx S1) fun ι' S' H' ds => ∀ J, ItR X.prog X.w X.K ι' S' H' J ds → R J H') I
    (fun _ => ⟨ι, S, ρ, rs, er, Out.mono (Out.bind o) fun ι1 S1 H1 dx st1 rs1 h1 x rx => ⟨ι1, S1, dx, rs1, rx, h1⟩⟩)) fun v s1 ⟨x, H1, I1, r1, ι1, S1, dx, rs1, rx, h1⟩ => ?_
  cases dx with
  | tup ds =>
    cases rx with
    | tup eh nm rl =>
      cases r1
      obtain ⟨its, rv, p, hz⟩ := I1.tuple (SqT.of eh)
      refine wpAny_pyIter_tuple (items := its.toArray) p ?_
      refine ⟨s1.heap.objs.size, [s1.heap.objs.size], _, _, H1, rfl, I1.kept (t' := s1.toks) (fun b o q => Heap.get?_push_of_some _ q), turn_tuple _ _, ⟨_, Heap.get?_push_size _ rfl, rfl, rfl⟩, fun b hb => ?_, Out.now h1 rs1 _ (it_tup eh nm rl)⟩
      have eb : b = s1.heap.objs.size := by simpa using hb
      subst eb
      exact I1.fpOk (Nat.le_refl _) (I1.hok.fresh (Nat.le_refl _))
  | lst ds =>
    cases rx with
    | lst eh nm rl =>
      cases r1
      obtain ⟨its, rv, p, hz⟩ := I1.list eh
      refine wpAny_pyIter_list p.isList ?_
      refine ⟨s1.heap.objs.size, [s1.heap.objs.size], _, _, H1, rfl, I1.kept (t' := s1.toks) (fun b o q => Heap.get?_push_of_some _ q), turn_list _ _, ⟨_, Heap.get?_push_size _ rfl, rfl, rfl⟩, fun b hb => ?_, Out.now h1 rs1 _ (it_list eh nm rl)⟩
      have eb : b = s1.heap.objs.size := by simpa using hb
      subst eb
      exact I1.fpOk (Nat.le_refl _) (I1.hok.fresh (Nat.le_refl _))
  | rng lo hi =>
    cases rx with
    | rng eh nm =>
      cases r1
      unfold items at h1
      dsimp only at h1
      by_cases hb : rngB lo hi = true
      · rw [if_pos hb] at h1
        exact rng_walked I1 eh hb (Out.now h1 rs1 _ it_rng)
      · rw [if_neg hb] at h1
        exact h1.elim
  | _ => exact h1.elim
def glB (sc : Scope) (x : Str) : Bool := decide (sc.names.lookup x = some .globalImplicit)
theorem gl_of (A : Amb X sc ow N k) {x : Str} (h : glB sc x = true) : Gl X x := by
  show X.env.scope.names.lookup x = _
  rw [A.scope]
  exact of_decide_eq_true h
theorem si_range1 (A : Amb X sc ow N k) {p : Pos} (hg : glB sc "range" = true) (hm : X.mg "range" = none) (ha : SE X W a ma) (hs : starEach [a] X.env = [(false, eval a X.env)] := by rfl) : SI X W tg (.Call (.Name "range" p) [a] [] pos) (iRange1 ma) := by
  refine PI.use (pi_range1 (gl_of A hg) hm (sa_cons ha sa_nil hs) hs) fun σ H R kf q => ?_
  obtain ⟨ι, S, ρ, rs, er, o⟩ := q kf
  refine fun _ => ⟨ι, S, ρ, rs, er, ?_⟩
  unfold aCons aNil
  have o1 := Out.bind o
  revert o1
  cases ma ρ S with
  | bad => exact fun h => h
  | ex e S1 => exact fun h => h
  | ok d S1 =>
    intro o1 ι1 H1 st1 rs1 xs rx
    have h1 := o1 ι1 H1 st1 rs1
    cases rx with
    | cons r1 r2 =>
      cases r2
      cases d with
      | int n =>
        cases r1
        unfold range1 at h1
        dsimp only at h1
        by_cases hb : rngB 0 n = true
        · rw [if_pos hb] at h1
          obtain ⟨_, _, h3, h4⟩ := rngB_of hb
          exact ⟨n, rfl, h3, h4, Out.now h1 rs1 _ it_rng⟩
        · rw [if_neg hb] at h1
          exact h1.elim
      | _ => exact h1.elim
theorem si_range2 (A : Amb X sc ow N k) {p : Pos} (hg : glB sc "range" = true) (hm : X.mg "range" = none) (ha : SE X W a ma) (hb : SE X W b mb) (hs : starEach [a, b] X.env = [(false, eval a X.env), (false, eval b X.env)] := by rfl) (hs2 : starEach [b] X.env = [(false, eval b X.env)] := by rfl) :
    SI X W tg (.Call (.Name "range" p) [a, b] [] pos) (iRange2 ma mb) := by
  refine PI.use (pi_range2 (gl_of A hg) hm (sa_cons ha (sa_cons hb sa_nil hs2) (by rw [hs, hs2])) hs hs2) fun σ H R kf q => ?_
  obtain ⟨ι, S, ρ, rs, er, o⟩ := q kf
  refine fun _ => ⟨ι, S, ρ, rs, er, ?_⟩
  have e1 : aCons ma (aCons mb aNil) ρ S = (ma ρ S).bind fun x S1 => (mb ρ S1).bind fun y S2 => .ok [x, y] S2 := by
    unfold aCons aNil
    congr 1
    funext x S1
    rw [Res.bind_assoc]
    rfl
  rw [e1]
  unfold iRange2 at o
  revert o
  cases ma ρ S with
  | bad => exact fun h => h
  | ex e S1 => exact fun h => h
  | ok d S1 =>
    simp only [Res.bind_ok]
    cases mb ρ S1 with
    | bad => exact fun h => h
    | ex e S2 => exact fun h => h
    | ok d2 S2 =>
      simp only [Res.bind_ok]
      intro o ι2 H2 st2 rs2 xs rx
      have h2 : Out X.prog X.w X.K W σ ι2 S2 H2 (range2 d d2 S2) fun ι' S' H' ds => ∀ J, ItR X.prog X.w X.K ι' S' H' J ds → R J H' := Out.trans st2 o
      cases rx with
      | cons r1 r2 =>
        cases r2 with
        | cons r2 r3 =>
          cases r3
          unfold range2 at h2
          cases d with
          | int i =>
            cases d2 with
            | int j =>
              cases r1
              cases r2
              dsimp only at h2
              by_cases hb : rngB i j = true
              · rw [if_pos hb] at h2
                exact ⟨i, j, rfl, rngB_of hb, Out.now h2 rs2 _ it_rng⟩
              · rw [if_neg hb] at h2
                exact h2.elim
            | _ => exact h2.elim
          | _ => exact h2.elim
/-! ### enumerate -/
/-- the tuple at a, each item with its number in a new pair -/
def IteT (a : Addr) : It :=
  ⟨fun i H => ∃ (xs : List V) (x : V), H a = some (.tup xs) ∧ xs[i]? = some x,
   fun i H v H' => ∃ T x, v = .ref T ∧ H T = none ∧ H' = upd H T (.tup [.int (i : Nat), x]) ∧ ∀ xs, H a = some (.tup xs) → xs[i]? = some x,
   fun i H => ∃ xs : List V, H a = some (.tup xs) ∧ xs.length = i⟩
/-- the enumerate object e over the iterator it of the tuple at a -/
structure EnT (a e it : Addr) (i : Nat) (h : Heap) : Prop where
  en : ∃ old, IsEnum h e it ((i : Nat) : Int) old
  ti : h.IsTupleIter it a i
  ne : e ≠ it ∧ a ≠ e ∧ a ≠ it
theorem turn_enumT {P : Program} {w : World} {K : PySem.W.Frag} {elts : List Expr} {kk : Nat} {tpos : Pos} (a e it : Addr) : Turn P w K (.Tuple elts kk tpos) (IteT a) [e, it] e (EnT a e it) where
  mem := List.mem_cons_self
  obj := fun i h st b hb => by
    obtain ⟨old, he⟩ := st.en
    obtain ⟨o, ho, hc, hd⟩ := st.ti
    rcases (show b = e ∨ b = it by simpa using hb) with z | z
    · subst z; exact ⟨_, he, fun v q => nomatch q⟩
    · subst z; exact ⟨o, ho, fun v q => by rw [hd] at q; cases q⟩
  keep := fun i h h' st kp => ⟨let ⟨old, he⟩ := st.en; ⟨old, kp e List.mem_cons_self _ he⟩, st.ti.at fun o q => kp it (by simp) o q, st.ne⟩
  item := by
    intro X hP hw hK hc i pins s σ H E I hf st ⟨xs, x, hq, hx⟩
    subst hP hw hK
    obtain ⟨old, he⟩ := st.en
    obtain ⟨its, rv, p, hz⟩ := I.tuple (SqT.of hq)
    obtain ⟨u, hu, ru⟩ := rv.get hx
    have hit := st.ti
    have hel : e < s.heap.objs.size := Heap.lt_size he
    have hil : it < s.heap.objs.size := by obtain ⟨_, q, _⟩ := hit; exact Heap.lt_size q
    have hil2 := (List.getElem?_eq_some_iff.mp hu).1
    have Dr := Draws.tuple (prog := X.prog) (w := X.w) (A := X.A.in1) (I.ok.hd hc) it a st.ne.2.2 its.toArray
    refine wpAny_pyNext_enum_itemD Dr he ⟨hit, p⟩ (by simpa using hil2) st.ne.1 (by simp only [List.mem_cons, List.not_mem_nil, or_false, not_or]; exact ⟨st.ne.1, fun z => st.ne.2.1 z.symm⟩) fun y h1 tk hy ho hit1 hT hsz hkp => ?_
    have ey : y = u := by
      rw [List.getElem?_toArray, hu] at hy
      exact (Option.some.inj hy).symm
    subst ey
    refine ⟨_, rfl, wpAny_letOwnedTupleGo_enum (s := { s with heap := h1, toks := tk + 1 }) ho fun h2 he2 sb => ?_⟩
    have hT2 := (sb.2 _ (Nat.ne_of_gt hel)).trans hT
    have new : ObjOk X.prog X.w (upd H s.heap.objs.size (.tup [.int (i : Nat), x])) h2 s.heap.objs.size (.tup [.int (i : Nat), x]) :=
      ⟨(by decide : 2 ≤ sizeLine), [.int i tk, y], .cons ⟨tk, rfl⟩ (.cons ru .nil), ⟨_, hT2, rfl, _, rfl⟩⟩
    have I1 : Inv X pins σ (upd H s.heap.objs.size (.tup [.int (i : Nat), x])) { s with heap := h2, toks := tk + 1 } :=
      I.turnedNew (ch := [e, it]) (fun b ob hb q => (sb.2 b (fun z => hb (by simp [z]))).trans (hkp b ob (fun z => hb (by simp [z])) (fun z => hb (by simp [z])) q)) hf (Nat.le_refl _) new
    refine ⟨.ref s.heap.objs.size, _, I1, rfl, ⟨_, x, rfl, I.hok.fresh (Nat.le_refl _), rfl, fun ys hy => ?_⟩, ⟨⟨y, ?_⟩, hit1.1.at fun o q => (sb.2 it (Ne.symm st.ne.1)).trans q, st.ne⟩, fun b hb => ?_⟩
    · rw [hq] at hy; cases hy; exact hx
    · have e1 : ((i + 1 : Nat) : Int) = (i : Int) + 1 := by omega
      rw [e1]; exact he2
    · have hb2 : b < s.heap.objs.size := by
        rcases (show b = e ∨ b = it by simpa using hb) with z | z
        · subst z; exact hel
        · subst z; exact hil
      rw [upd_ne (Nat.ne_of_lt hb2)]
      exact (hf b hb).1
  done := by
    intro X hP hw hK hc i pins s σ H E I hf st ⟨xs, hq, hx⟩
    subst hP hw hK
    obtain ⟨old, he⟩ := st.en
    obtain ⟨its, rv, p, hz⟩ := I.tuple (SqT.of hq)
    obtain ⟨f0, f1, f2, f3, f4, f5⟩ := hf it (by simp)
    have hl := rv.length
    have Dr := Draws.tuple (prog := X.prog) (w := X.w) (A := X.A.in1) (I.ok.hd hc) it a st.ne.2.2 its.toArray
    have hn : its.toArray.size = i := by rw [List.size_toArray, ← hl, hx]
    rw [hn] at Dr
    exact wpAny_pyNext_enum_endD Dr he ⟨st.ti, p⟩ fun h1 eb => ⟨rfl, I.turned (t' := s.toks) (fun b o hb q => eb b o hb q) f0 f1 f3 f4 f5⟩
  self := fun A i s Q E st h => let ⟨_, he⟩ := st.en; wpAny_pyIter_enum he h
/-- enumerate(v) of what begins: its two new cells -/
theorem meets_enum1 {v : Value} {o : Obj} {G : Heap → Prop} (B : Begins v o G) :
    Meets (Builtin.«enumerate.__new__» ⟨[.type "enumerate", v], []⟩) (fun _ R s => G s.heap ∧
      R (.ok (.ret (.ref (s.heap.push o).objs.size))) { s with heap := (s.heap.push o).push { cls := .type "enumerate", data := .fields #[.none, .bool false, .ref s.heap.objs.size, rawInt 0, .none, .none] } }) :=
  .of_wp fun prog w A R s h => by
    obtain ⟨hp, g, d, tk, os⟩ := s
    obtain ⟨h1, h⟩ := h
    have hsub := sub_enumerate
    have q1 : ∀ {A1 : Around} {E : Value → Shared → Prop} {Q : Value → Shared → Prop}, Q (.ref hp.objs.size) ⟨hp.push o, g, d, tk, os⟩ → wpAny (model prog w) A1 (pyIter v) Q E ⟨hp, g, d, tk, os⟩ :=
      fun q => B.iter prog w _ _ ⟨hp, g, d, tk, os⟩ _ h1 q
    wp_walk using q1
    refine wpAny_stack_any fun st => wpAny_pure ?_
    split
    · rename_i c _ _ _ _ _
      cases (c == Value.type "enumerate") <;> (wp_walk using q1; exact ⟨_, rfl, h⟩)
    · wp_walk using q1
      exact ⟨_, rfl, h⟩
theorem enumD_get : ∀ (l : List D) (n i : Nat), (enumD n l)[i]? = (l[i]?).map fun d => .tup [.int ((n + i : Nat) : Int), d]
  | [], n, i => by simp [enumD]
  | d :: l, n, 0 => by simp [enumD]
  | d :: l, n, i + 1 => by
    have ih := enumD_get l (n + 1) i
    simp only [enumD, List.getElem?_cons_succ, ih]
    congr 1
    funext d
    congr 3
    omega
theorem enumD_len : ∀ (l : List D) (n : Nat), (enumD n l).length = l.length
  | [], n => rfl
  | d :: l, n => by simp [enumD, enumD_len l]
theorem pair_new {P : Program} {w : World} {K : PySem.W.Frag} {ι : Pl} {S : Store} {H : Hp} {T : Addr} {x : V} {d : D} {i : Nat} (rs : RS P w K ι S H) (hT : H T = none) (kf : KF K (upd H T (.tup [.int (i : Nat), x]))) (r : Rel P w K ι S H x d) :
    Step ι S H ι S (upd H T (.tup [.int (i : Nat), x])) ∧ RS P w K ι S (upd H T (.tup [.int (i : Nat), x])) ∧ Rel P w K ι S (upd H T (.tup [.int (i : Nat), x])) (.ref T) (.tup [.int ((i : Nat) : Int), d]) := by
  obtain ⟨st, rs2, nm⟩ := RS.new (o := .tup [.int (i : Nat), x]) rs hT kf
  exact ⟨st, rs2, .tup upd_same nm (.cons (.int _) (.cons (Rel.mono st rs2 _ _ r) .nil))⟩
theorem enumD_nil {ds : List D} {n : Nat} : enumD n ds = [] ↔ ds = [] := by cases ds <;> simp [enumD]
theorem it_enumT {P : Program} {w : World} {K : PySem.W.Frag} {ι : Pl} {S : Store} {H : Hp} {p : Addr} {xs : List V} {ds : List D} (e : H p = some (.tup xs)) (nm : ¬ Mu ι S p) (r : RelL P w K ι S H xs ds) : ItR P w K ι S H (IteT p) (enumD 0 ds) where
  turns := by
    intro i ι2 S2 H2 st rs2
    obtain ⟨e2, nm2⟩ := st.keep _ _ e nm
    have r2 := RelL.monoW st rs2 _ _ r
    refine ⟨fun d hd => ?_, fun hl => ⟨xs, e2, by rw [RelL.length r2, hl, enumD_len]⟩⟩
    rw [enumD_get] at hd
    cases z : ds[i]? with
    | none => rw [z] at hd; cases hd
    | some d0 =>
      rw [z] at hd
      cases hd
      obtain ⟨v, hv, rv⟩ := r2.get z
      refine ⟨⟨xs, v, e2, hv⟩, fun x H3 ⟨T, y, ex, hT, eh, hy⟩ kf => ?_⟩
      have hy2 := hy xs e2
      rw [hv] at hy2
      cases hy2
      subst ex eh
      have := pair_new (i := i) rs2 hT kf rv
      rw [Nat.zero_add]
      exact this
  first := by
    intro H2 kp
    have e2 := kp _ _ e
    refine ⟨fun hn => ?_, fun hn => ⟨xs, e2, by rw [RelL.length r, enumD_nil.mp hn]; rfl⟩, fun x H3 ⟨T, y, ex, hT, eh, _⟩ a o z => by rw [eh, upd_ne (ne_of_none z hT)]; exact z⟩
    cases r with
    | nil => exact absurd rfl hn
    | cons r1 r2 => exact ⟨_, _, e2, rfl⟩
theorem it_enumL {P : Program} {w : World} {K : PySem.W.Frag} {ι : Pl} {S : Store} {H : Hp} {p : Addr} {xs : List V} {ds : List D} (e : SqL K H p xs) (nm : ¬ Mu ι S p) (r : RelL P w K ι S H xs ds) : ItR P w K ι S H (Ite K p) (enumD 0 ds) where
  turns := by
    intro i ι2 S2 H2 st rs2
    obtain ⟨e2, nm2⟩ := st.sqL (fun _ => rs2.mu) e nm
    have r2 := RelL.monoW st rs2 _ _ r
    refine ⟨fun d hd => ?_, fun hl => ⟨xs, e2, by rw [RelL.length r2, hl, enumD_len]; exact Nat.le_refl _⟩⟩
    rw [enumD_get] at hd
    cases z : ds[i]? with
    | none => rw [z] at hd; cases hd
    | some d0 =>
      rw [z] at hd
      cases hd
      obtain ⟨v, hv, rv⟩ := r2.get z
      refine ⟨⟨xs, v, e2, hv⟩, fun x H3 ⟨T, y, ex, hT, eh, hy⟩ kf => ?_⟩
      have hy2 := hy xs e2
      rw [hv] at hy2
      cases hy2
      subst ex eh
      have := pair_new (i := i) rs2 hT kf rv
      rw [Nat.zero_add]
      exact this
  first := by
    intro H2 kp
    have e2 := sqKeep kp e
    refine ⟨fun hn => ?_, fun hn => ⟨xs, e2, by rw [RelL.length r, enumD_nil.mp hn]; exact Nat.le_refl _⟩, fun x H3 ⟨T, y, ex, hT, eh, _⟩ a o z => by rw [eh, upd_ne (ne_of_none z hT)]; exact z⟩
    cases r with
    | nil => exact absurd rfl hn
    | cons r1 r2 => exact ⟨_, _, e2, rfl⟩
/-- enumerate of a tuple is called -/
theorem call_enumT {prog : Program} {w : World} {A : Around} {E : Value → Shared → Prop} {s : Shared} {l : Addr} {items : Array Value} {Q : Value → Shared → Prop} (hL : s.heap.IsTuple l items)
    (h : ∀ h1, IsEnum h1 (s.heap.objs.size + 1) s.heap.objs.size 0 .none → h1.IsTupleIter s.heap.objs.size l 0 → (∀ b o, s.heap.get? b = some o → h1.get? b = some o) → Q (.ref (s.heap.objs.size + 1)) { s with heap := h1 }) :
    wpAny (model prog w) A (call (.type "enumerate") [.ref l]) Q E s := by
  refine callType_new F.called_enumerate (by decide) (F.typeCall_enumerate_1 _) (F.newCall_enumerate_1 _) (fun obj => F.args_object_init_2 obj _) F.entry_enumerate_new
    (meets_enum1 (begins_tuple l items)) ⟨hL, ?_⟩
  have hz : (s.heap.push { cls := .type "tuple_iterator", data := .fields #[.ref l, .int 0 0] }).objs.size = s.heap.objs.size + 1 := Heap.size_push ..
  show _ ∧ _
  rw [hz]
  have he : IsEnum ((s.heap.push { cls := .type "tuple_iterator", data := .fields #[.ref l, .int 0 0] }).push
      { cls := .type "enumerate", data := .fields #[.none, .bool false, .ref s.heap.objs.size, rawInt 0, .none, .none] }) (s.heap.objs.size + 1) s.heap.objs.size 0 .none := by
    have q := Heap.get?_push_size (s.heap.push { cls := .type "tuple_iterator", data := .fields #[.ref l, .int 0 0] })
      (o := { cls := .type "enumerate", data := .fields #[.none, .bool false, .ref s.heap.objs.size, rawInt 0, .none, .none] }) rfl
    rw [hz] at q
    exact q
  exact ⟨⟨_, he, rfl⟩, h _ he ⟨_, Heap.get?_push_of_some _ (Heap.get?_push_size _ rfl), rfl, rfl⟩ fun b o x => Heap.get?_push_of_some _ (Heap.get?_push_of_some _ x)⟩
/-- enumerate(e), the target a tuple -/
theorem si_enum (A : Amb X sc ow N k) {p tpos : Pos} {elts : List Expr} {kk : Nat} (hg : glB sc "enumerate" = true) (hm : X.mg "enumerate" = none) (ha : SE X W e ma) (hs : starEach [e] X.env = [(false, eval e X.env)] := by rfl) :
    SI X W (.Tuple elts kk tpos) (.Call (.Name "enumerate" p) [e] [] pos) (iEnum ma) := by
  refine ⟨fun pins s σ H R I q => ?_⟩
  obtain ⟨ι, S, ρ, rs, er, o⟩ := q (invKF I)
  refine Call_ (ld_blt I (gl_of A hg) hm boot_enumerate (callWith_type1 (thn ((sa_cons ha sa_nil hs : SA X W [e] _).run pos pins s σ H (fun xs H1 => ∃ x ι1 S1 dx, xs = [x] ∧ RS X.prog X.w X.K ι1 S1 H1 ∧ Rel X.prog X.w X.K ι1 S1 H1 x dx ∧ Out X.prog X.w X.K W σ ι1 S1 H1 (enumOf dx S1) fun ι' S' H' ds => ∀ J, ItR X.prog X.w X.K ι' S' H' J ds → R J H') I
    (fun _ => ⟨ι, S, ρ, rs, er, ?_⟩)) fun us s1 ⟨xs, H1, I1, r1, x, ι1, S1, dx, ex, rs1, rx, h1⟩ => ?_) hs rfl))
  · have h := Out.bind o
    unfold aCons aNil
    revert h
    cases ma ρ S with
    | bad => exact fun h => h
    | ex e S1 => exact fun h => h
    | ok d S1 =>
      intro h ι1 H1 st1 rs1 xs rx
      cases rx with
      | cons ra rb =>
        cases rb
        exact ⟨_, ι1, S1, d, rfl, rs1, ra, h ι1 H1 st1 rs1⟩
  · subst ex
    cases r1 with
    | cons r rr =>
      cases rr
      have fin : ∀ (b : Addr), s1.heap.objs.size ≤ b → FpOk X pins H1 b := fun b hle => I1.fpOk hle (I1.hok.fresh hle)
      have fin2 : ∀ b ∈ [s1.heap.objs.size + 1, s1.heap.objs.size], FpOk X pins H1 b := fun b hb => fin b (by
        rcases (show b = s1.heap.objs.size + 1 ∨ b = s1.heap.objs.size by simpa using hb) with z | z <;> omega)
      cases dx with
      | lst ds =>
        cases rx with
        | lst eh nm rl =>
          cases r
          obtain ⟨its, rv, p2, hz⟩ := I1.list eh
          refine call_enumerate_list p2.isList fun h2 he hit hsz hkp => wpAny_pyIter_enum he ?_
          exact ⟨s1.heap.objs.size + 1, [s1.heap.objs.size + 1, s1.heap.objs.size], _, _, H1, rfl, I1.kept (t' := s1.toks) hkp, turn_enum _ (s1.heap.objs.size + 1) s1.heap.objs.size, ⟨⟨.none, he⟩, hit, Nat.succ_ne_self _⟩, fin2, Out.now h1 rs1 _ (it_enumL eh nm rl)⟩
      | tup ds =>
        cases rx with
        | tup eh nm rl =>
          cases r
          obtain ⟨its, rv, p2, hz⟩ := I1.tuple (SqT.of eh)
          have hlt := I1.hok.lt eh
          refine call_enumT (items := its.toArray) p2 fun h2 he hit hkp => wpAny_pyIter_enum he ?_
          exact ⟨s1.heap.objs.size + 1, [s1.heap.objs.size + 1, s1.heap.objs.size], _, _, H1, rfl, I1.kept (t' := s1.toks) hkp, turn_enumT _ (s1.heap.objs.size + 1) s1.heap.objs.size, ⟨⟨.none, he⟩, hit, Nat.succ_ne_self _, Nat.ne_of_lt (Nat.lt_succ_of_lt hlt), Nat.ne_of_lt hlt⟩, fin2, Out.now h1 rs1 _ (it_enumT eh nm rl)⟩
      | _ => exact h1.elim
end
end Mi
set_option linter.all false
set_option maxRecDepth 100000
/-! Mi, part I: list comprehensions. -/
namespace Mi
open PySem L2
section
variable {P : Program} {w : World} {K : PySem.W.Frag} {ι : Pl} {S : Store} {H : Hp} {p : Addr}
/-- a list begins to be made -/
theorem RS.hide {o : HO} (rs : RS P w K ι S H) (hp : H p = none) (kf : KF K (upd H p o)) :
    StepW ι S H ⟨ι.pl, p :: ι.hid⟩ S (upd H p o) ∧ RS P w K ⟨ι.pl, p :: ι.hid⟩ S (upd H p o) := by
  have keep : ∀ a u, H a = some u → upd H p o a = some u := fun a u e => by rw [upd_ne (ne_of_none e hp)]; exact e
  have stw : StepW ι S H ⟨ι.pl, p :: ι.hid⟩ S (upd H p o) := by
    refine ⟨fun a u e n => ⟨keep a u e, fun m => ?_⟩, [], by simp⟩
    rcases m with m | m
    · rcases List.mem_cons.mp m with z | z
      · subst z; rw [hp] at e; cases e
      · exact n (.inl z)
    · exact n (.inr m)
  have mk : ∀ a, Mu ⟨ι.pl, p :: ι.hid⟩ S a → K.lookup a = none := fun a m => by
    rcases m with m | m
    · rcases List.mem_cons.mp m with z | z
      · subst z; exact kf _ _ upd_same
      · exact rs.mu (.inl z)
    · exact rs.mu (.inr m)
  refine ⟨stw, rs.len, fun l a o h1 h2 => ObR.mono' stw mk (keep a) (rs.obj l a o h1 h2), rs.inj, fun a ha => ?_, kf⟩
  rcases List.mem_cons.mp ha with z | z
  · subst z
    refine ⟨⟨_, upd_same⟩, fun l o h1 h2 => ?_⟩
    obtain ⟨u, e⟩ := (rs.obj l a o h1 h2).there
    rw [hp] at e; cases e
  · exact ⟨let ⟨u, e⟩ := (rs.hd a z).1; ⟨u, keep a u e⟩, (rs.hd a z).2⟩
/-- .. grows -/
theorem RS.grow (rs : RS P w K ι S H) (hm : p ∈ ι.hid) (xs : List V) : StepW ι S H ι S (upd H p (.lst xs)) ∧ RS P w K ι S (upd H p (.lst xs)) := by
  have keep : ∀ a u, a ≠ p → H a = some u → upd H p (.lst xs) a = some u := fun a u ne e => by rw [upd_ne ne]; exact e
  have stw : StepW ι S H ι S (upd H p (.lst xs)) := ⟨fun a u e n => ⟨keep a u (fun z => n (.inl (z ▸ hm))) e, n⟩, [], by simp⟩
  refine ⟨stw, rs.len, fun l a o h1 h2 => ObR.mono' stw (fun a m => rs.mu m) (fun u e => keep a u (fun z => (rs.hd p hm).2 l o (z ▸ h1) h2) e) (rs.obj l a o h1 h2), rs.inj, fun a ha => ⟨?_, (rs.hd a ha).2⟩, fun a o e => ?_⟩
  · by_cases z : a = p
    · subst z; exact ⟨_, upd_same⟩
    · obtain ⟨u, e⟩ := (rs.hd a ha).1
      exact ⟨u, keep a u z e⟩
  · by_cases z : a = p
    · subst z; exact rs.mu (.inl hm)
    · rw [upd_ne z] at e; exact rs.kf a o e
/-- .. is ready -/
def era (H : Hp) (p : Addr) : Hp := fun b => if b = p then none else H b
theorem era_ne {H : Hp} {p b : Addr} (h : b ≠ p) : era H p b = H b := if_neg h
theorem era_same {H : Hp} {p : Addr} : era H p p = none := if_pos rfl
theorem upd_era {H : Hp} {p : Addr} {o : HO} (h : H p = some o) : upd (era H p) p o = H := by
  funext b
  by_cases z : b = p
  · subst z; rw [upd_same, h]
  · rw [upd_ne z, era_ne z]
theorem RS.ready {pl hid : List Addr} (rs : RS P w K ⟨pl, p :: hid⟩ S H) (hn : p ∉ hid) : StepW ⟨pl, p :: hid⟩ S H ⟨pl, hid⟩ S (era H p) ∧ RS P w K ⟨pl, hid⟩ S (era H p) := by
  have mu : ∀ a, Mu ⟨pl, hid⟩ S a → Mu ⟨pl, p :: hid⟩ S a := fun a m => m.elim (fun z => .inl (List.mem_cons_of_mem _ z)) .inr
  have keep : ∀ a u, a ≠ p → H a = some u → era H p a = some u := fun a u ne e => by rw [era_ne ne]; exact e
  have stw : StepW ⟨pl, p :: hid⟩ S H ⟨pl, hid⟩ S (era H p) := ⟨fun a u e n => ⟨keep a u (fun z => n (.inl (z ▸ List.mem_cons_self))) e, fun m => n (mu a m)⟩, [], by simp⟩
  refine ⟨stw, rs.len, fun l a o h1 h2 => ObR.mono' stw (fun a m => rs.mu (mu a m)) (fun u e => keep a u (fun z => (rs.hd p List.mem_cons_self).2 l o (z ▸ h1) h2) e) (rs.obj l a o h1 h2), rs.inj, fun a ha => ⟨?_, (rs.hd a (List.mem_cons_of_mem _ ha)).2⟩, fun a o e => ?_⟩
  · obtain ⟨u, e⟩ := (rs.hd a (List.mem_cons_of_mem _ ha)).1
    exact ⟨u, keep a u (fun z => hn (z ▸ ha)) e⟩
  · by_cases z : a = p
    · subst z; rw [era_same] at e; cases e
    · rw [era_ne z] at e; exact rs.kf a o e
end
section
variable {X : Cx} {sc : Scope} {ow : List (Str × NameKind)} {N : List Str} {k : Nat} {W : WE}
abbrev STs (X : Cx) (W : WE) (es : List Expr) (m : TM) : Prop := PTs X es (rT X.prog X.w X.K W m)
theorem PTs.use {es : List Expr} {t t' : TT} (h : PTs X es t) (i : ∀ σ H Q, KF X.K H → t' σ H Q → t σ H fun x H' => KF X.K H' → Q x H') : PTs X es t' :=
  ⟨fun pins s σ H Q I q => thn (h.run pins s σ H _ I (i σ H Q (invKF I) q)) fun _ _ ⟨H', I', f⟩ => ⟨H', I', f (invKF I')⟩⟩
theorem sts_nil : STs X W [] Mi.tYes := PTs.use pts_nil fun σ H Q kf q => by
  obtain ⟨ι, S, ρ, rs, er, o⟩ := q kf
  exact fun _ => Out.now o rs
theorem sts_one {c : Expr} {m : TM} (h : ST X W c m) : STs X W [c] m := pts_one h
/-- a comprehension's block -/
abbrev blk (X : Cx) (scope : Scope) (s : Shared) (H : Hp) (C : Addr) (cl : List (Str × Addr)) (fp : List Addr) : Cx := X.blk s H scope (compEnvC scope cl C X.env) fp
theorem amb_blk (A : Amb X sc ow N k) {scope : Scope} (hk : scope.kind = .function) (s : Shared) (H : Hp) (C : Addr) (cl : List (Str × Addr)) (fp : List Addr) : Amb (blk X scope s H C cl fp) (relS scope sc) scope.names N k where
  scope := by
    show relabel scope X.env = relS scope sc
    unfold relabel relS Env.kindOf
    rw [A.scope]
  fnk := hk
  names := A.names
  nd := A.nd
  calm := A.calm
  room := A.room
  grd := A.grd
  st := fun x hx => by
    have e : (blk X scope s H C cl fp).env.scope = relS scope X.env.scope := rfl
    rw [e]
    rcases hx with hx | hx
    · have q := lookup_relS_keep (sc := X.env.scope) (show NameKind.local ≠ .free by decide) hx
      exact ⟨.inl q, .inr q⟩
    · have q := lookup_relS_keep (sc := X.env.scope) (show NameKind.cell ≠ .free by decide) hx
      refine ⟨.inr q, .inl ?_⟩
      show (scope.names.lookup x == some NameKind.cell) = true
      rw [hx]
      rfl
  pass := PassesOwn.never
theorem wipe_else {σ σ2 : St} : ∀ {vs st : List Nat}, Else st (L2.wipe σ vs) σ2 → (∀ i ∈ st, i ∈ vs) → L2.wipe σ2 vs = L2.wipe σ vs := by
  intro vs st ⟨hl, el⟩ hs
  rw [wipe_length] at hl
  apply List.ext_getElem?
  intro i
  by_cases hi : i ∈ vs
  · have f : ∀ (τ : St) (vs : List Nat), i ∈ vs → (L2.wipe τ vs)[i]? = if i < τ.length then some none else none := by
      intro τ vs
      induction vs with
      | nil => intro h; cases h
      | cons v vs ih =>
        intro h
        show ((L2.wipe τ vs).set v none)[i]? = _
        by_cases hv : v = i
        · subst hv
          rw [List.getElem?_set_self', ]
          have := wipe_length τ vs
          by_cases hl : v < τ.length
          · rw [if_pos hl, List.getElem?_eq_getElem (by omega)]; rfl
          · rw [if_neg hl, List.getElem?_eq_none (by omega)]; rfl
        · rw [List.getElem?_set_ne hv]
          exact ih ((List.mem_cons.mp h).resolve_left fun z => hv z.symm)
    rw [f _ _ hi, f _ _ hi, hl]
  · rw [L2.wipe_out hi]
    exact el i fun q => hi (hs i q)
/-- [elt for tg in iter if ..] -/
theorem lc_run {it : AM} {g : GM} {t : TM} {e : EM} {vs st : List Nat} {σ : St} {H : Hp} {Q : VK} (hvs : ∀ i ∈ st, i ∈ vs) {ι : Pl} {S : Store} {ρ : Env} (rs : RS X.prog X.w X.K ι S H) (er : EnvR X.prog X.w X.K ι S ρ σ H)
    (h : Out X.prog X.w X.K W σ ι S H (lComp vs it g t e ρ S) fun ι' S' H' ds => ∀ p xs, H' p = none → RelL X.prog X.w X.K ι' S' H' xs ds → KF X.K (upd H' p (.lst xs)) → Q (.ref p) (upd H' p (.lst xs))) :
    tLc (rI X.prog X.w X.K W it) (rG X.prog X.w X.K W0 st g) (rT X.prog X.w X.K W0 t) (rE X.prog X.w X.K W0 e) vs σ H fun x H' => KF X.K H' → Q x H' := by
  refine fun _ => ⟨ι, S, ρ, rs, er, Out.mono (Out.bind h) fun ι1 S1 H1 ds st1 rs1 hO J hJ p hp => ?_⟩
  by_cases hK : X.K.lookup p = none
  case neg =>
    -- an address of the written part: nothing is to be shown
    have nk : ∀ H' : Hp, H' p ≠ none → ¬ KF X.K H' := fun H' hn kf => by
      cases e : H' p with
      | none => exact hn e
      | some o => exact hK (kf p o e)
    have nk0 : upd H1 p (.lst []) p ≠ none := by rw [upd_same]; exact fun z => nomatch z
    obtain ⟨f1, f2, f3⟩ := hJ.first (upd H1 p (.lst [])) fun a u e => by rw [upd_ne (ne_of_none e hp)]; exact e
    refine ⟨fun i m H' => i = 0 ∧ H' = upd H1 p (.lst []), ⟨0, rfl, rfl⟩, ?_⟩
    rintro i m H' ⟨rfl, rfl⟩
    by_cases hd : ds = []
    · exact .inl ⟨f2 hd, fun kf => absurd kf (nk _ nk0)⟩
    · refine .inr ⟨f1 hd, fun _ => False, fun _ z => z.elim, fun x H3 hy => ?_⟩
      have h3 := f3 x H3 hy p _ upd_same
      exact fun kf => absurd kf (nk H3 (by rw [h3]; exact fun z => nomatch z))
  case pos =>
    have kf1 : KF X.K (upd H1 p (.lst [])) := fun a o e => by
      by_cases z : a = p
      · subst z; exact hK
      · rw [upd_ne z] at e; exact rs1.kf a o e
    obtain ⟨sh, rsh⟩ := rs1.hide hp kf1
    have er1 := er.mono st1 rs1
    -- what is to come of it
    generalize hr : lcGo vs g t e ρ ds [] S1 = r at hO
    refine ⟨fun i m H' => ∃ pl S2 xs acc, RS X.prog X.w X.K ⟨pl, p :: ι1.hid⟩ S2 H' ∧ StepW ι1 S1 H1 ⟨pl, p :: ι1.hid⟩ S2 H' ∧ (∀ a ∈ ι1.hid, H' a = H1 a) ∧ H' p = some (.lst xs) ∧ RelL X.prog X.w X.K ⟨pl, p :: ι1.hid⟩ S2 H' xs acc ∧ i + m = ds.length ∧ lcGo vs g t e ρ (ds.drop i) acc S2 = r,
      ⟨ds.length, ι1.pl, S1, [], [], rsh, sh, fun a ha => ?_, upd_same, .nil, by simp, hr⟩, ?_⟩
    · obtain ⟨u, e⟩ := (rs1.hd a ha).1
      rw [upd_ne (ne_of_none e hp)]
    have hn : p ∉ ι1.hid := fun z => by
      obtain ⟨u, e⟩ := (rs1.hd p z).1
      rw [hp] at e; cases e
    rintro i m H' ⟨pl, S2, xs, acc, rs2, st2, hk2, hp2, ra, him, hgo⟩
    obtain ⟨tg1, tg2⟩ := hJ.turns i _ S2 H' st2 rs2
    cases ed : ds[i]? with
    | none =>
      have hl : ds.length ≤ i := List.getElem?_eq_none_iff.mp ed
      rw [List.drop_eq_nil_of_le hl] at hgo
      refine .inl ⟨tg2 (by omega), fun kf => ?_⟩
      have hr2 : r = .ok acc S2 := hgo.symm
      subst hr2
      obtain ⟨st3, rs3⟩ := rs2.ready hn
      have st4 : Step ι1 S1 H1 ⟨pl, ι1.hid⟩ S2 (era H' p) := ⟨st2.trans st3, rfl, fun a ha => (era_ne fun z => hn (by rw [← z]; exact ha)).trans (hk2 a ha)⟩
      have q := hO _ _ st4 rs3 p xs era_same (RelL.monoW st3 rs3 _ _ ra)
      rw [upd_era hp2] at q
      exact q kf
    | some d =>
      have hl : i < ds.length := (List.getElem?_eq_some_iff.mp ed).1
      have hd : ds.drop i = d :: ds.drop (i + 1) := by
        rw [List.drop_eq_getElem_cons hl]
        congr 1
        exact (List.getElem?_eq_some_iff.mp ed).2
      rw [hd] at hgo
      obtain ⟨go, yld⟩ := tg1 d ed
      refine .inr ⟨go, fun H'' => ∃ pl S2 xs acc, RS X.prog X.w X.K ⟨pl, p :: ι1.hid⟩ S2 H'' ∧ StepW ι1 S1 H1 ⟨pl, p :: ι1.hid⟩ S2 H'' ∧ (∀ a ∈ ι1.hid, H'' a = H1 a) ∧ H'' p = some (.lst xs) ∧ RelL X.prog X.w X.K ⟨pl, p :: ι1.hid⟩ S2 H'' xs acc ∧ lcGo vs g t e ρ (ds.drop (i + 1)) acc S2 = r, fun H'' ⟨pl, S2, xs, acc, z1, z2, z3, z4, z5, z6⟩ => ⟨m - 1, by omega, pl, S2, xs, acc, z1, z2, z3, z4, z5, by omega, z6⟩, fun x H3 hy => ?_⟩
      intro kf3
      obtain ⟨st3, rs3, rx⟩ := yld x H3 hy kf3
      have er3 := (er1.monoW (st2.trans st3.toStepW) rs3).wipe vs
      refine ⟨_, S2, Mi.wipe ρ vs, d, rs3, er3, rx, ?_⟩
      unfold lcGo at hgo
      -- the target
      revert hgo
      cases hg : g d (Mi.wipe ρ vs) S2 with
      | brk ρ1 S3 => intro hgo; subst hgo; exact hO.elim
      | cont ρ1 S3 => intro hgo; subst hgo; exact hO.elim
      | ret d1 S3 => intro hgo; subst hgo; exact hO.elim
      | ex e1 ρ1 S3 => intro hgo; subst hgo; exact hO.elim
      | bad => intro hgo; subst hgo; exact hO.elim
      | next ρ1 S3 =>
        intro hgo ι4 σ4 H4 st4 rs4 er4 el4
        dsimp only at hgo
        refine ⟨wipe_else el4 hvs, fun _ => ⟨ι4, S3, ρ1, rs4, er4, ?_⟩⟩
        revert hgo
        cases ht : t ρ1 S3 with
        | bad => intro hgo; subst hgo; exact hO.elim
        | ex e1 S4 => intro hgo; subst hgo; exact hO.elim
        | ok b S4 =>
          intro hgo ι5 H5 st5 rs5
          have stA : StepW ι1 S1 H1 ι5 S4 H5 := st2.trans (st3.toStepW.trans (st4.toStepW.trans st5.toStepW))
          have hidA : ι5.hid = p :: ι1.hid := st5.hid.trans st4.hid
          have hk5 : ∀ a ∈ (p :: ι1.hid), H5 a = H' a := fun a ha => (st5.hk a (by rw [st4.hid]; exact ha)).trans ((st4.hk a ha).trans (st3.hk a ha))
          have ra5 := RelL.mono st5 rs5 _ _ (RelL.mono st4 rs4 _ _ (RelL.mono st3 rs3 _ _ ra))
          obtain ⟨pl5, hid5⟩ := ι5
          have hidA : hid5 = p :: ι1.hid := hidA
          subst hidA
          cases b with
          | false =>
            dsimp only
            rw [if_neg Bool.false_ne_true]
            exact ⟨pl5, S4, xs, acc, rs5, stA, fun a ha => (hk5 a (List.mem_cons_of_mem _ ha)).trans (hk2 a ha), (hk5 p List.mem_cons_self).trans hp2, ra5, hgo⟩
          | true =>
            dsimp only
            rw [if_pos rfl]
            refine fun _ => ⟨_, S4, ρ1, rs5, er4.mono st5 rs5, ?_⟩
            dsimp only at hgo
            revert hgo
            cases he : e ρ1 S4 with
            | bad => intro hgo; subst hgo; exact hO.elim
            | ex e1 S5 => intro hgo; subst hgo; exact hO.elim
            | ok y S5 =>
              intro hgo ι6 H6 st6 rs6 v rv
              dsimp only at hgo
              by_cases z : acc.length < sizeLine
              · rw [if_pos z] at hgo
                have hp6 : H6 p = some (.lst xs) := (st6.hk p List.mem_cons_self).trans ((hk5 p List.mem_cons_self).trans hp2)
                obtain ⟨pl6, hid6⟩ := ι6
                have hid6' : hid6 = p :: ι1.hid := st6.hid
                subst hid6'
                have ra6 := RelL.mono st6 rs6 _ _ ra5
                obtain ⟨st7, rs7⟩ := rs6.grow (p := p) List.mem_cons_self (xs ++ [v])
                refine ⟨xs, hp6, by rw [RelL.length ra6]; exact z, pl6, S5, xs ++ [v], acc ++ [y], rs7, stA.trans (st6.toStepW.trans st7), fun a ha => ?_, upd_same, (RelL.monoW st7 rs7 _ _ ra6).append (.cons (Rel.monoW st7 rs7 _ _ rv) .nil), hgo⟩
                rw [upd_ne (fun q => hn (by rw [← q]; exact ha))]
                exact (st6.hk a (List.mem_cons_of_mem _ ha)).trans ((hk5 a (List.mem_cons_of_mem _ ha)).trans (hk2 a ha))
              · rw [if_neg z] at hgo
                subst hgo
                exact hO.elim
/-- [elt for tg in iter if ..], a new list -/
theorem sl_comp (A : Amb X sc ow N k) {elt tg iter : Expr} {ifs : List Expr} {scope : Scope} {pos : Pos} {it : AM} {g : GM} {t : TM} {e : EM} {st : List Nat} (own : List (Str × Nat)) (hi : SI X W tg iter it) (ok : blkC N sc scope own = true) (hvs : (st.all fun i => decide (i ∈ own.map (·.2))) = true)
    (hg : ∀ s H C cl fp, SG (blk X scope s H C cl fp) W0 st tg g) (ht : ∀ s H C cl fp, STs (blk X scope s H C cl fp) W0 ifs t) (he : ∀ s H C cl fp, SE (blk X scope s H C cl fp) W0 elt e)
    (hs : ∀ x, foldedSetIterable iter X.env x = pure x := by intro _; rfl) : SL X W (.ListComp elt [⟨tg, iter, ifs, 0⟩] scope pos) (lComp (own.map (·.2)) it g t e) := by
  refine PE.use (pe_lc (own := own) (g := rG X.prog X.w X.K W0 st g) (tt := rT X.prog X.w X.K W0 t) (te := rE X.prog X.w X.K W0 e) A.calm (by rw [A.names]; exact A.nd) hi (by rw [A.names, A.scope]; exact blkOk_by ok) hg ht he hs) fun σ H Q kf q => ?_
  obtain ⟨ι, S, ρ, rs, er, h⟩ := q kf
  exact lc_run (fun i hi => by simpa using List.all_eq_true.mp hvs i hi) rs er (Out.mono h fun _ _ _ _ _ _ z p xs hp r _ => z p xs hp r)
/-- name = [..]: a frozen list -/
theorem ss_setLcF (A : Amb X sc ow N k) {i : Nat} {y : Str} {py spos : Pos} {elt tg iter : Expr} {ifs : List Expr} {scope : Scope} {pos : Pos} {it : AM} {g : GM} {t : TM} {e : EM} {st : List Nat} (own : List (Str × Nat)) (h1 : (decide (N[i]? = some y) && decide (sc.names.lookup y = some .local)) = true)
    (hsw : swapsWith (.ListComp elt [⟨tg, iter, ifs, 0⟩] scope pos) (some (.Name y py)) spos.line (envC sc) = pure true) (hi : SI X W tg iter it) (ok : blkC N sc scope own = true) (hvs : (st.all fun i => decide (i ∈ own.map (·.2))) = true)
    (hg : ∀ s H C cl fp, SG (blk X scope s H C cl fp) W0 st tg g) (ht : ∀ s H C cl fp, STs (blk X scope s H C cl fp) W0 ifs t) (he : ∀ s H C cl fp, SE (blk X scope s H C cl fp) W0 elt e)
    (hs : ∀ x, foldedSetIterable iter X.env x = pure x := by intro _; rfl) : SS X W (.Assign [.Name y py] (.ListComp elt [⟨tg, iter, ifs, 0⟩] scope pos) spos) (sAsg (eFrz (lComp (own.map (·.2)) it g t e)) (Mi.gName i)) := by
  simp only [Bool.and_eq_true, decide_eq_true_eq] at h1
  refine PS.use (ps_setLc (i := i) (own := own) (g := rG X.prog X.w X.K W0 st g) (tt := rT X.prog X.w X.K W0 t) (te := rE X.prog X.w X.K W0 e) A.calm (by rw [A.names]; exact A.nd) (by rw [A.names]; exact h1.1) (by rw [A.scope]; exact h1.2) (by rw [swaps_scope A.env]; exact hsw) hi (by rw [A.names, A.scope]; exact blkOk_by ok) hg ht he hs) fun D σ H kf q => ?_
  obtain ⟨ι, S, ρ, rs, er, h⟩ := q kf
  refine lc_run (Q := fun x H' => D.nx (σ.set i (some x)) H') (fun i hi => by simpa using List.all_eq_true.mp hvs i hi) rs er (Out.mono (Out.bind (Out.toS er h)) fun ι1 S1 H1 ds st1 rs1 z p xs hp r kf2 => ?_)
  obtain ⟨st2, rs2, nm⟩ := RS.new (o := .lst xs) rs1 hp kf2
  exact z ι1 _ st2 rs2 ι1 _ _ .refl rs2 (((er.mono st1 rs1).mono st2 rs2).set (.lst (SqL.of upd_same) nm (RelL.mono st2 rs2 _ _ r)))
/-- name = [..]: a list at a place -/
theorem ss_setLcN (A : Amb X sc ow N k) {i : Nat} {y : Str} {py spos : Pos} {elt tg iter : Expr} {ifs : List Expr} {scope : Scope} {pos : Pos} {it : AM} {g : GM} {t : TM} {e : EM} {st : List Nat} (own : List (Str × Nat)) (h1 : (decide (N[i]? = some y) && decide (sc.names.lookup y = some .local)) = true)
    (hsw : swapsWith (.ListComp elt [⟨tg, iter, ifs, 0⟩] scope pos) (some (.Name y py)) spos.line (envC sc) = pure true) (hi : SI X W tg iter it) (ok : blkC N sc scope own = true) (hvs : (st.all fun i => decide (i ∈ own.map (·.2))) = true)
    (hg : ∀ s H C cl fp, SG (blk X scope s H C cl fp) W0 st tg g) (ht : ∀ s H C cl fp, STs (blk X scope s H C cl fp) W0 ifs t) (he : ∀ s H C cl fp, SE (blk X scope s H C cl fp) W0 elt e)
    (hs : ∀ x, foldedSetIterable iter X.env x = pure x := by intro _; rfl) : SS X W (.Assign [.Name y py] (.ListComp elt [⟨tg, iter, ifs, 0⟩] scope pos) spos) (sAsg (eNew (lComp (own.map (·.2)) it g t e)) (Mi.gName i)) := by
  simp only [Bool.and_eq_true, decide_eq_true_eq] at h1
  refine PS.use (ps_setLc (i := i) (own := own) (g := rG X.prog X.w X.K W0 st g) (tt := rT X.prog X.w X.K W0 t) (te := rE X.prog X.w X.K W0 e) A.calm (by rw [A.names]; exact A.nd) (by rw [A.names]; exact h1.1) (by rw [A.scope]; exact h1.2) (by rw [swaps_scope A.env]; exact hsw) hi (by rw [A.names, A.scope]; exact blkOk_by ok) hg ht he hs) fun D σ H kf q => ?_
  obtain ⟨ι, S, ρ, rs, er, h⟩ := q kf
  refine lc_run (Q := fun x H' => D.nx (σ.set i (some x)) H') (fun i hi => by simpa using List.all_eq_true.mp hvs i hi) rs er (Out.mono (Out.bind (Out.toS er h)) fun ι1 S1 H1 ds st1 rs1 z p xs hp r kf2 => ?_)
  obtain ⟨st2, rs2⟩ := RS.put (o := .lst xs) (ob := .lst ds) rs1 hp kf2 fun ι' S' st mk => .lst upd_same (RelL.mono' st mk _ _ r)
  refine z _ _ st2 rs2 _ _ _ .refl rs2 (((er.mono st1 rs1).mono st2 rs2).set (.loc ?_))
  show (ι1.pl ++ [p])[S1.length]? = some p
  rw [← rs1.len, List.getElem?_append_right (Nat.le_refl _), Nat.sub_self]
  rfl
end
end Mi
set_option linter.all false
set_option maxRecDepth 100000
/-! Mi, part J: defs and calls. -/
namespace Mi
open PySem L2
/-- a def's promise: what its mirror tells -/
def spF (P : Program) (w : World) (K : PySem.W.Frag) (n : Nat) (f : FM) : Sp := fun vs H Q _ => vs.length = n ∧ (KF K H → ∃ ι S ds, RS P w K ι S H ∧ RelL P w K ι S H vs ds ∧ Out P w K W0 [] ι S H (f ds S) fun ι' S' H' d => ∀ x, Rel P w K ι' S' H' x d → Q x H')
/-- a def's promise where no guard is under way -/
structure FnG (P : Program) (w : World) (K : PySem.W.Frag) (mg : Str → Option Value) (base : Heap) (k : Nat) (f : Addr) (fd : FuncData) (ps : List Str) (sp : Sp) : Prop where
  many : ∀ vs H Q E, sp vs H Q E → vs.length = ps.length
  does : ∀ (A : Around) (outer : List PySem.Env) (s : Shared) (H : Hp) (args : Args) (us : List Value) (vs : List V) (Q : VK) (E : XK), Room k A → A.guards = some [] → Env0 P w K mg base A outer s H → BindsTo s fd args (ps.zip us) → Vals vs us → sp vs H Q E →
    codeAny (model P w) A (.call (.ref f) args) (CR CX0 outer P w H s Q E) s
theorem FnG.up {P : Program} {w : World} {K : PySem.W.Frag} {mg : Str → Option Value} {base : Heap} {j k : Nat} {f : Addr} {fd : FuncData} {ps : List Str} {sp : Sp} (F : FnG P w K mg base j f fd ps sp) (h : j ≤ k) : FnG P w K mg base k f fd ps sp :=
  ⟨F.many, fun A outer s H args us vs Q E room => F.does A outer s H args us vs Q E (room.mono h)⟩
/-- by the def's body -/
theorem fnG_of {P : Program} {w : World} {K : PySem.W.Frag} {mg : Str → Option Value} {base : Heap} {x qual : Str} {st : Stmt} {f : Addr} {fd : FuncData} {N ps : List Str} {k : Nat} {sp : Sp} (F : Fun K x qual st f fd) (S : FnScope N ps (defScope st))
    (many : ∀ vs H Q E, sp vs H Q E → vs.length = ps.length)
    (body : ∀ (cdv : Value) (A : Around) (outer : List PySem.Env) (s : Shared) (H : Hp) (vs : List V) (Q : VK) (E : XK), Room k (A.deeper (PyProof.Rows.envOfC qual (defScope st) s.heap.objs.size f cdv)) → A.guards = some [] → sp vs H Q E →
      ∃ t, PSs (cxOf CX0 P w K mg base N qual (defScope st) f cdv A outer s H E).nox (defBody st) t ∧ t { nx := fun _ H' => Q .non H', rt := Q } (L2.start N vs) H) : FnG P w K mg base (k + 1) f fd ps sp := by
  obtain ⟨oc, od, kV, doc, pm, an, cdv, ct, osl, rfl, fnAt, code⟩ := F.ex
  refine ⟨many, fun A outer s H args us vs Q E room gd env binds rel want => ?_⟩
  have count := many _ _ _ _ want
  have stay : ∀ b o, base.get? b = some o → s.heap.get? b = some o := fun b o e => (env.bs b o e).1
  have kin : K.In s.heap := env.mod.kin.keeps stay
  have nolim : s.heap.NoLimit := env.mod.nolimit.keeps stay
  have kinds : ∀ y ∈ ps.zip us, (defScope st).names.lookup y.1 = some .local ∨ ((defScope st).names.lookup y.1 = some .cell ∧ ((cellsFrom (s.heap.objs.size + 1) (defScope st).names []).lookup y.1).isSome = true) := by
    rintro ⟨n, v⟩ hy
    exact (S.par n (List.of_mem_zip hy).1).imp id fun q => ⟨q, PySem.W.cellsFrom_some _ _ _ (.inl q)⟩
  refine codeAny_call_function room.depth (kin _ _ fnAt) rfl S.co S.gen rfl (PySem.W.codeRec_of kin code) (binds _ _ _ _ ?_)
  refine PySem.wpAny_newFunctionEnv_cells S.kind kinds fun env2 he s1 made => ?_
  subst he
  obtain ⟨t, run, start⟩ := body cdv A outer s H vs Q E (room.deeper _) gd want
  have I := inv_start (CX := CX0) (E := E) S room.hd env count rel made
  refine ⟨nolim.keeps made.toInCall.keep, codeAny_func (wpAny_mono (run.nox.run [] s1 (L2.start N vs) H _ I start) (fun fl s2 hs => ?_) fun _ _ hs => hs)⟩
  cases fl with
  | next => obtain ⟨σ2, H2, I2, q⟩ := hs; exact ⟨.non, H2, I2.os, I2.bare, I2.base, I2.hok, rfl, q⟩
  | ret u => obtain ⟨v, σ2, H2, I2, rv, q⟩ := hs; exact ⟨v, H2, I2.os, I2.bare, I2.base, I2.hok, rv, q⟩
  | brk => obtain ⟨_, _, _, q⟩ := hs; exact q.elim
  | cont => obtain ⟨_, _, _, q⟩ := hs; exact q.elim
section
variable {X : Cx}
theorem run_G {pins : List (Addr × Obj)} {σ : St} {H : Hp} {s : Shared} {Q : VK} {us : List Value} {vs : List V} {k : Nat} {f : Addr} {fd : FuncData} {ps : List Str} {sp : Sp} (F : FnG X.prog X.w X.K X.mg X.base k f fd ps sp) (room : Room k X.A) (gd : X.A.guards = some []) (hb : Binds X.K fd ps [])
    (I : Inv X pins σ H s) (r : Vals vs us) (want : sp vs H Q fun _ _ _ => False) : wpAny (model X.prog X.w) X.A (call (.ref f) us) (EP X pins σ Q) X.xe s := by
  have count : us.length = ps.length := r.length.symm.trans (F.many _ _ _ _ want)
  have binds := hb s us I.kIn (by rw [List.append_nil]; exact count)
  rw [List.append_nil] at binds
  refine wpAny_call (codeAny_mono (F.does X.A X.stack s H ⟨us, []⟩ us vs Q (fun _ _ _ => False) room gd I.env0 binds r want) fun res s2 hq => ?_)
  cases res with
  | error e => exact pass0 pins σ H s e s2 I hq
  | ok fl =>
    cases fl with
    | ret u => exact I.after hq
    | next => exact hq.elim
    | brk => exact hq.elim
    | cont => exact hq.elim
def tG (sp : Sp) (t : TA) : TE := fun σ H Q => t σ H fun vs H1 => sp vs H1 Q fun _ _ _ => False
theorem pe_callG {x : Str} {p pos : Pos} {e : Expr} {es : List Expr} {t : TA} {k : Nat} {f : Addr} {fd : FuncData} {ps : List Str} {sp : Sp} (F : FnG X.prog X.w X.K X.mg X.base k f fd ps sp) (room : Room k X.A) (gd : X.A.guards = some []) (hg : Gl X x) (hm : X.mg x = some (.ref f)) (hk : PySem.W.keepIn X.K (.ref f) = true) (hb : Binds X.K fd ps [])
    (ha : PA X (e :: es) t) (nd : (x == ("__debug__" : Str)) = false) (h1 : starEach (e :: es) X.env = (false, eval e X.env) :: starEach es X.env) (h2 : (backTo pos (starEach es X.env)).any (·.1) = false) : PE X (.Call (.Name x p) (e :: es) [] pos) (tG sp t) := by
  refine ⟨fun pins s σ H Q I h => wpAny_Call_Name_kw (ld_glob I hg hm ?_ nd)⟩
  refine PySem.W.callWith_K (h₀ := X.base) I.ok.mod.kin hk (thn (ha.run pos pins s σ H _ I h) ?_) h1 h2
  rintro us s1 ⟨vs, H1, I1, r, q⟩
  exact ⟨I1.kIn, run_G F room gd hb I1 r q⟩
theorem pe_call0G {x : Str} {p pos : Pos} {k : Nat} {f : Addr} {fd : FuncData} {ps : List Str} {sp : Sp} (F : FnG X.prog X.w X.K X.mg X.base k f fd ps sp) (room : Room k X.A) (gd : X.A.guards = some []) (hg : Gl X x) (hm : X.mg x = some (.ref f)) (hk : PySem.W.keepIn X.K (.ref f) = true) (hb : Binds X.K fd ps [])
    (nd : (x == ("__debug__" : Str)) = false) : PE X (.Call (.Name x p) [] [] pos) (tG sp tNil) := by
  refine ⟨fun pins s σ H Q I h => wpAny_Call_Name_kw (ld_glob I hg hm ?_ nd)⟩
  exact PySem.W.callWith_K0 I.kIn hk (run_G (us := []) F room gd hb I .nil h)
end
/-- a def of the module that keeps it -/
structure FnR (P : Program) (w : World) (K : PySem.W.Frag) (mg : Str → Option Value) (base : Heap) (x : Str) (k n : Nat) (f : FM) : Prop where
  ex : ∃ (a : Addr) (fd : FuncData) (ps : List Str), FnG P w K mg base k a fd ps (spF P w K n f) ∧ mg x = some (.ref a) ∧ PySem.W.keepIn K (.ref a) = true ∧ Binds K fd ps []
theorem FnR.mono {P : Program} {w : World} {K : PySem.W.Frag} {mg : Str → Option Value} {base : Heap} {x : Str} {k k' n : Nat} {f : FM} (F : FnR P w K mg base x k n f) (h : k ≤ k') : FnR P w K mg base x k' n f := by
  obtain ⟨a, fd, ps, h1, h2⟩ := F.ex
  exact ⟨a, fd, ps, h1.up h, h2⟩
/-- what holds no place has no place -/
theorem pure_any {P : Program} {w : World} {K : PySem.W.Frag} {ι ι' : Pl} {S S' : Store} {H : Hp} (hm : ∀ a, ¬ Mu ι S a → ¬ Mu ι' S' a) :
    (∀ (d : D) (v : V), d.pure = true → Rel P w K ι S H v d → Rel P w K ι' S' H v d) ∧ (∀ (ds : List D) (vs : List V), D.pureAll ds = true → RelL P w K ι S H vs ds → RelL P w K ι' S' H vs ds) := by
  have main : ∀ (n : Nat), (∀ (d : D) (v : V), sizeOf d ≤ n → d.pure = true → Rel P w K ι S H v d → Rel P w K ι' S' H v d) ∧ (∀ (ds : List D) (vs : List V), sizeOf ds ≤ n → D.pureAll ds = true → RelL P w K ι S H vs ds → RelL P w K ι' S' H vs ds) := by
    intro n
    induction n with
    | zero => exact ⟨fun d v h => by cases d <;> simp at h, fun ds vs h => by cases ds <;> simp at h⟩
    | succ n ih =>
      refine ⟨fun d v hs hp r => ?_, fun ds vs hs hp r => ?_⟩
      · cases r with
        | non => exact .non
        | bl b => exact .bl b
        | int i => exact .int i
        | str x => exact .str x
        | tup e nm r => exact .tup e (hm _ nm) (ih.2 _ _ (by simp at hs; omega) (by simpa [D.pure] using hp) r)
        | lst e nm r => exact .lst e (hm _ nm) (ih.2 _ _ (by simp at hs; omega) (by simpa [D.pure] using hp) r)
        | dctK e nm nd r => exact .dctK e (hm _ nm) nd (ih.2 _ _ (by simp at hs; omega) (by simp [D.pure] at hp; exact hp.2) r)
        | dctN e nm nd q r1 r2 => exact .dctN e (hm _ nm) nd q (ih.2 _ _ (by simp at hs; omega) (by simp [D.pure] at hp; exact hp.1) r1) (ih.2 _ _ (by simp at hs; omega) (by simp [D.pure] at hp; exact hp.2) r2)
        | loc e => simp [D.pure] at hp
        | rng e nm => exact .rng e (hm _ nm)
      · cases r with
        | nil => exact .nil
        | cons r1 r2 =>
          simp only [D.pureAll, Bool.and_eq_true] at hp
          exact .cons (ih.1 _ _ (by simp at hs; omega) hp.1 r1) (ih.2 _ _ (by simp at hs; omega) hp.2 r2)
  exact ⟨fun d v hp r => (main (sizeOf d)).1 d v (Nat.le_refl _) hp r, fun ds vs hp r => (main (sizeOf ds)).2 ds vs (Nat.le_refl _) hp r⟩
/-- the state of a def that is handed no place: all that may change is hidden from it -/
def live (ι : Pl) (S : Store) : List Addr := (List.range S.length).filterMap fun l => match S[l]? with
  | some (some _) => ι.pl[l]?
  | _ => none
theorem mem_live {ι : Pl} {S : Store} {a : Addr} : a ∈ live ι S ↔ ∃ (l : Nat) (o : Ob), ι.pl[l]? = some a ∧ S[l]? = some (some o) := by
  unfold live
  rw [List.mem_filterMap]
  constructor
  · rintro ⟨l, _, e⟩
    split at e
    · rename_i o ho
      exact ⟨l, o, e, ho⟩
    · cases e
  · rintro ⟨l, o, h1, h2⟩
    refine ⟨l, List.mem_range.mpr (List.getElem?_eq_some_iff.mp h2).1, ?_⟩
    rw [h2]
    exact h1
def Pl.off (ι : Pl) (S : Store) : Pl := ⟨[], ι.hid ++ live ι S⟩
theorem mu_off {ι : Pl} {S : Store} {a : Addr} : Mu (ι.off S) [] a ↔ Mu ι S a := by
  constructor
  · rintro (m | ⟨l, o, h1, _⟩)
    · rcases List.mem_append.mp m with z | z
      · exact .inl z
      · exact .inr (mem_live.mp z)
    · simp [Pl.off] at h1
  · rintro (m | m)
    · exact .inl (List.mem_append_left _ m)
    · exact .inl (List.mem_append_right _ (mem_live.mpr m))
section
variable {P : Program} {w : World} {K : PySem.W.Frag} {ι : Pl} {S : Store} {H : Hp} {f : FM} {ds : List D} {vs : List V} {σ : St} {W : WE}
theorem RS.off (rs : RS P w K ι S H) : RS P w K (ι.off S) [] H :=
  ⟨rfl, fun l a o h1 => by simp [Pl.off] at h1, fun l l' a o o' h1 => by simp [Pl.off] at h1, fun a ha => ⟨rs.muAt (mu_off.mp (.inl ha)), fun l o h1 => by simp [Pl.off] at h1⟩, rs.kf⟩
/-- behind a call without places -/
theorem off_back {ι1 : Pl} {S1 : Store} {H1 : Hp} (rs : RS P w K ι S H) (st : Step (ι.off S) [] H ι1 S1 H1) (rs1 : RS P w K ι1 S1 H1) : Step ι S H ι S H1 ∧ RS P w K ι S H1 ∧ ∀ d v, d.pure = true → Rel P w K ι1 S1 H1 v d → Rel P w K ι S H1 v d := by
  have kp : ∀ a u, H a = some u → H1 a = some u := fun a u z => by
    by_cases m : Mu ι S a
    · have hm : a ∈ (ι.off S).hid := (mu_off.mpr m).elim (fun q => q) fun ⟨l, o, h1, _⟩ => by simp [Pl.off] at h1
      rw [st.hk a hm]; exact z
    · exact (st.keep a u z fun q => m (mu_off.mp q)).1
  refine ⟨⟨⟨fun a u z n => ⟨kp a u z, n⟩, [], by simp⟩, rfl, fun a ha => ?_⟩, ⟨rs.len, fun l a ob h1 h2 => obKeep kp (rs.obj l a ob h1 h2), rs.inj, fun a ha => ⟨let ⟨u, z⟩ := (rs.hd a ha).1; ⟨u, kp a u z⟩, (rs.hd a ha).2⟩, rs1.kf⟩, fun d v hp r => ?_⟩
  · obtain ⟨u, z⟩ := (rs.hd a ha).1
    rw [z, kp a u z]
  · refine (pure_any fun a n m => n ?_).1 d v hp r
    have hm : a ∈ (ι.off S).hid := (mu_off.mpr m).elim (fun q => q) fun ⟨l, o, h1, _⟩ => by simp [Pl.off] at h1
    exact .inl (by rw [st.hid]; exact hm)
theorem callP_out {Q : VK} (rs : RS P w K ι S H) (rl : RelL P w K ι S H vs ds) (o : Out P w K W σ ι S H (callP f ds S) fun ι' S' H' d => ∀ x, Rel P w K ι' S' H' x d → Q x H') :
    ∃ ι S ds, RS P w K ι S H ∧ RelL P w K ι S H vs ds ∧ Out P w K W0 [] ι S H (f ds S) fun ι' S' H' d => ∀ x, Rel P w K ι' S' H' x d → Q x H' := by
  unfold callP at o
  by_cases hp : D.pureAll ds = true
  · rw [if_pos hp] at o
    refine ⟨ι.off S, [], ds, rs.off, (pure_any fun a n m => n (mu_off.mp m)).2 ds vs hp rl, ?_⟩
    cases e : f ds [] with
    | bad => rw [e] at o; exact o.elim
    | ex e1 S1 => rw [e] at o; exact o.elim
    | ok d S1 =>
      rw [e] at o
      dsimp only at o
      by_cases hd : d.pure = true
      · rw [if_pos hd] at o
        intro ι1 H1 st1 rs1 x rx
        obtain ⟨st2, rs2, bk⟩ := off_back rs st1 rs1
        exact o ι H1 st2 rs2 x (bk d x hd rx)
      · rw [if_neg hd] at o
        exact o.elim
  · rw [if_neg hp] at o
    exact o.elim
end
/-- what lies below a place stays where the places above are dropped -/
theorem under_any {P : Program} {w : World} {K : PySem.W.Frag} {ι : Pl} {S : Store} {H : Hp} {n : Nat} :
    (∀ (d : D) (v : V), d.under n = true → Rel P w K ι S H v d → Rel P w K ⟨ι.pl.take n, ι.hid⟩ (S.take n) H v d) ∧ (∀ (ds : List D) (vs : List V), D.underAll n ds = true → RelL P w K ι S H vs ds → RelL P w K ⟨ι.pl.take n, ι.hid⟩ (S.take n) H vs ds) := by
  have hm : ∀ a, ¬ Mu ι S a → ¬ Mu ⟨ι.pl.take n, ι.hid⟩ (S.take n) a := by
    rintro a nm (m | ⟨l, o, h1, h2⟩)
    · exact nm (.inl m)
    · by_cases hl : l < n
      · rw [List.getElem?_take_of_lt hl] at h1 h2
        exact nm (.inr ⟨l, o, h1, h2⟩)
      · rw [List.getElem?_eq_none (by simp; omega)] at h2
        cases h2
  have main : ∀ (j : Nat), (∀ (d : D) (v : V), sizeOf d ≤ j → d.under n = true → Rel P w K ι S H v d → Rel P w K ⟨ι.pl.take n, ι.hid⟩ (S.take n) H v d) ∧ (∀ (ds : List D) (vs : List V), sizeOf ds ≤ j → D.underAll n ds = true → RelL P w K ι S H vs ds → RelL P w K ⟨ι.pl.take n, ι.hid⟩ (S.take n) H vs ds) := by
    intro j
    induction j with
    | zero => exact ⟨fun d v h => by cases d <;> simp at h, fun ds vs h => by cases ds <;> simp at h⟩
    | succ j ih =>
      refine ⟨fun d v hs hp r => ?_, fun ds vs hs hp r => ?_⟩
      · cases r with
        | non => exact .non
        | bl b => exact .bl b
        | int i => exact .int i
        | str x => exact .str x
        | tup e nm r => exact .tup e (hm _ nm) (ih.2 _ _ (by simp at hs; omega) (by simpa [D.under] using hp) r)
        | lst e nm r => exact .lst e (hm _ nm) (ih.2 _ _ (by simp at hs; omega) (by simpa [D.under] using hp) r)
        | dctK e nm nd r => exact .dctK e (hm _ nm) nd (ih.2 _ _ (by simp at hs; omega) (by simp [D.under] at hp; exact hp.2) r)
        | dctN e nm nd q r1 r2 => exact .dctN e (hm _ nm) nd q (ih.2 _ _ (by simp at hs; omega) (by simp [D.under] at hp; exact hp.1) r1) (ih.2 _ _ (by simp at hs; omega) (by simp [D.under] at hp; exact hp.2) r2)
        | loc e =>
          simp only [D.under, decide_eq_true_eq] at hp
          exact .loc (by show (ι.pl.take n)[_]? = _; rw [List.getElem?_take_of_lt hp]; exact e)
        | rng e nm => exact .rng e (hm _ nm)
      · cases r with
        | nil => exact .nil
        | cons r1 r2 =>
          simp only [D.underAll, Bool.and_eq_true] at hp
          exact .cons (ih.1 _ _ (by simp at hs; omega) hp.1 r1) (ih.2 _ _ (by simp at hs; omega) hp.2 r2)
  exact ⟨fun d v hp r => (main (sizeOf d)).1 d v (Nat.le_refl _) hp r, fun ds vs hp r => (main (sizeOf ds)).2 ds vs (Nat.le_refl _) hp r⟩
section
variable {P : Program} {w : World} {K : PySem.W.Frag} {ι : Pl} {S : Store} {H : Hp} {f : FM} {ds : List D} {vs : List V} {σ : St} {W : WE}
theorem RS.cut {n : Nat} (rs : RS P w K ι S H) (hu : ((S.take n).all (obUnder n)) = true) : RS P w K ⟨ι.pl.take n, ι.hid⟩ (S.take n) H where
  len := by simp [rs.len]
  obj := fun l a o h1 h2 => by
    have hl : l < n := by
      have := (List.getElem?_eq_some_iff.mp h2).1
      simp at this; omega
    have hm : obUnder n (some o) = true := List.all_eq_true.mp hu _ (List.mem_of_getElem? h2)
    simp only [List.getElem?_take_of_lt hl] at h1 h2
    have r := rs.obj l a o h1 h2
    cases r with
    | lst e r => exact .lst e (under_any.2 _ _ hm r)
    | dctK e nd r => exact .dctK e nd (under_any.2 _ _ (by simp [obUnder] at hm; exact hm.2) r)
    | dctN e nd q r1 r2 => exact .dctN e nd q (under_any.2 _ _ (by simp [obUnder] at hm; exact hm.1) r1) (under_any.2 _ _ (by simp [obUnder] at hm; exact hm.2) r2)
  inj := fun l l' a o o' h1 h2 g1 g2 => by
    have hl : l < n := by
      have := (List.getElem?_eq_some_iff.mp g1).1
      simp at this; omega
    have hl' : l' < n := by
      have := (List.getElem?_eq_some_iff.mp g2).1
      simp at this; omega
    simp only [List.getElem?_take_of_lt hl] at h1 g1
    simp only [List.getElem?_take_of_lt hl'] at h2 g2
    exact rs.inj l l' a o o' h1 h2 g1 g2
  hd := fun a ha => ⟨(rs.hd a ha).1, fun l o h1 h2 => by
    have hl : l < n := by
      have := (List.getElem?_eq_some_iff.mp h2).1
      simp at this; omega
    simp only [List.getElem?_take_of_lt hl] at h1 h2
    exact (rs.hd a ha).2 l o h1 h2⟩
  kf := rs.kf
theorem callS_out {Q : VK} (rs : RS P w K ι S H) (rl : RelL P w K ι S H vs ds) (o : Out P w K W σ ι S H (callS f ds S) fun ι' S' H' d => ∀ x, Rel P w K ι' S' H' x d → Q x H') :
    ∃ ι S ds, RS P w K ι S H ∧ RelL P w K ι S H vs ds ∧ Out P w K W0 [] ι S H (f ds S) fun ι' S' H' d => ∀ x, Rel P w K ι' S' H' x d → Q x H' := by
  refine ⟨ι, S, ds, rs, rl, ?_⟩
  unfold callS at o
  cases e : f ds S with
  | bad => rw [e] at o; exact o.elim
  | ex e1 S1 => rw [e] at o; exact o.elim
  | ok d S1 =>
    rw [e] at o
    dsimp only at o
    by_cases hp : (d.under S.length && (S1.take S.length).all (obUnder S.length)) = true
    · rw [if_pos hp] at o
      rw [Bool.and_eq_true] at hp
      intro ι1 H1 st1 rs1 x rx
      have rs2 := rs1.cut hp.2
      obtain ⟨more, hpl⟩ := st1.pre
      have hpl2 : ι1.pl.take S.length = ι.pl := by rw [hpl, ← rs.len, List.take_left]
      have hm : ∀ a, ¬ Mu ι1 S1 a → ¬ Mu ⟨ι1.pl.take S.length, ι1.hid⟩ (S1.take S.length) a := by
        rintro a nm (m | ⟨l, o, h1, h2⟩)
        · exact nm (.inl m)
        · have hl : l < S.length := by
            have := (List.getElem?_eq_some_iff.mp h2).1
            simp at this; omega
          simp only [List.getElem?_take_of_lt hl] at h1 h2
          exact nm (.inr ⟨l, o, h1, h2⟩)
      refine o _ H1 ⟨⟨fun a u z n => let ⟨z1, n1⟩ := st1.keep a u z n; ⟨z1, hm a n1⟩, [], by simp [hpl2]⟩, st1.hid, st1.hk⟩ rs2 x (under_any.1 _ _ hp.1 rx)
    · rw [if_neg hp] at o
      exact o.elim
end
section
variable {X : Cx} {sc : Scope} {ow : List (Str × NameKind)} {N : List Str} {k : Nat} {W : WE}
def callB (sc : Scope) (x : Str) : Bool := decide (sc.names.lookup x = some .globalImplicit) && !(x == ("__debug__" : Str))
def CfOk (X : Cx) (W : WE) (cf : FM → List D → Store → Res D) : Prop := ∀ (f : FM) (ds : List D) (vs : List V) (ι : Pl) (S : Store) (H : Hp) (σ : St) (Q : VK), RS X.prog X.w X.K ι S H → RelL X.prog X.w X.K ι S H vs ds → Out X.prog X.w X.K W σ ι S H (cf f ds S) (fun ι' S' H' d => ∀ x, Rel X.prog X.w X.K ι' S' H' x d → Q x H') →
  ∃ ι S ds, RS X.prog X.w X.K ι S H ∧ RelL X.prog X.w X.K ι S H vs ds ∧ Out X.prog X.w X.K W0 [] ι S H (f ds S) fun ι' S' H' d => ∀ x, Rel X.prog X.w X.K ι' S' H' x d → Q x H'
theorem se_call {cf : FM → List D → Store → Res D} (hcf : CfOk X W cf) (A : Amb X sc ow N k) {x : Str} {n j : Nat} {f : FM} (F : FnR X.prog X.w X.K X.mg X.base x j n f) (hj : j ≤ k) {e : Expr} {es : List Expr} {r : AM} {p pos : Pos} (hg : callB sc x = true) (ha : SA X W (e :: es) r)
    (h1 : starEach (e :: es) X.env = (false, eval e X.env) :: starEach es X.env := by rfl) (h2 : (backTo pos (starEach es X.env)).any (·.1) = false := by rfl) : SE X W (.Call (.Name x p) (e :: es) [] pos) (Mi.eCall cf n f r) := by
  obtain ⟨a, fd, ps, Fo, hm, hk, hb⟩ := F.ex
  unfold callB at hg
  rw [Bool.and_eq_true, decide_eq_true_eq, Bool.not_eq_true'] at hg
  have gl : Gl X x := by show X.env.scope.names.lookup x = _; rw [A.scope]; exact hg.1
  refine PE.use (pe_callG Fo (A.room.mono hj) A.grd gl hm hk hb ha hg.2 h1 h2) fun σ H Q kf q => ?_
  obtain ⟨ι, S, ρ, rs, er, h⟩ := q kf
  refine fun _ => ⟨ι, S, ρ, rs, er, Out.mono (Out.bind h) fun ι1 S1 H1 ds st1 rs1 h1 xs rx => ?_⟩
  by_cases hl : ds.length = n
  · rw [if_pos hl] at h1
    refine ⟨(RelL.length rx).trans hl, fun _ => ?_⟩
    obtain ⟨ι2, S2, ds2, rs2, rl2, o2⟩ := hcf f ds xs ι1 S1 H1 σ Q rs1 rx h1
    exact ⟨ι2, S2, ds2, rs2, rl2, Out.mono o2 fun _ _ _ _ _ _ z x rx _ => z x rx⟩
  · rw [if_neg hl] at h1
    exact h1.elim
theorem se_call0 {cf : FM → List D → Store → Res D} (hcf : CfOk X W cf) (A : Amb X sc ow N k) {x : Str} {j : Nat} {f : FM} (F : FnR X.prog X.w X.K X.mg X.base x j 0 f) (hj : j ≤ k) {p pos : Pos} (hg : callB sc x = true) : SE X W (.Call (.Name x p) [] [] pos) (Mi.eCall cf 0 f aNil) := by
  obtain ⟨a, fd, ps, Fo, hm, hk, hb⟩ := F.ex
  unfold callB at hg
  rw [Bool.and_eq_true, decide_eq_true_eq, Bool.not_eq_true'] at hg
  have gl : Gl X x := by show X.env.scope.names.lookup x = _; rw [A.scope]; exact hg.1
  refine PE.use (pe_call0G Fo (A.room.mono hj) A.grd gl hm hk hb hg.2) fun σ H Q kf q => ?_
  obtain ⟨ι, S, ρ, rs, er, h⟩ := q kf
  have h1 : Out X.prog X.w X.K W σ ι S H (cf f [] S) _ := h
  refine ⟨rfl, fun _ => ?_⟩
  obtain ⟨ι2, S2, ds2, rs2, rl2, o2⟩ := hcf f [] [] ι S H σ Q rs .nil h1
  exact ⟨ι2, S2, ds2, rs2, rl2, Out.mono o2 fun _ _ _ _ _ _ z x rx _ => z x rx⟩
theorem cf_P : CfOk X W callP := fun f ds vs ι S H σ Q rs rl o => callP_out rs rl o
theorem cf_S : CfOk X W callS := fun f ds vs ι S H σ Q rs rl o => callS_out rs rl o
end
/-! ### a def by its body -/
def amb_def {P : Program} {w : World} {K : PySem.W.Frag} {mg : Str → Option Value} {base : Heap} {N ps : List Str} {sc : Scope} {k : Nat} {qual : Str} {f : Addr} {cdv : Value} {A : Around} {outer : List PySem.Env} {s : Shared} {H : Hp} {E : XK}
    (S : FnScope N ps sc) (hr : Room k (A.deeper (PyProof.Rows.envOfC qual sc s.heap.objs.size f cdv))) (gd : A.guards = some []) : Amb (cxOf CX0 P w K mg base N qual sc f cdv A outer s H E).nox sc sc.names N k where
  scope := rfl
  fnk := S.kind
  names := rfl
  nd := S.nd
  calm := rfl
  room := hr
  grd := gd
  st := fun x hx => ⟨hx, .inl rfl⟩
  pass := PassesOwn.never
theorem start_rel {P : Program} {w : World} {K : PySem.W.Frag} {ι : Pl} {S : Store} {H : Hp} {N : List Str} : ∀ {vs : List V} {ds : List D}, RelL P w K ι S H vs ds → EnvR P w K ι S (ds.map some ++ List.replicate (N.length - ds.length) none) (L2.start N vs) H := by
  intro vs ds r
  have hl := RelL.length r
  unfold L2.start
  refine ⟨by simp [hl], fun i d e => ?_⟩
  by_cases hi : i < ds.length
  · rw [List.getElem?_append_left (by simpa using hi), List.getElem?_map] at e
    cases z : ds[i]? with
    | none => rw [z] at e; cases e
    | some d' =>
      rw [z] at e
      cases e
      obtain ⟨v, hv, rv⟩ := r.get z
      exact ⟨v, by rw [List.getElem?_append_left (by simp [hl]; exact hi), List.getElem?_map, hv]; rfl, rv⟩
  · rw [List.getElem?_append_right (by simpa using Nat.le_of_not_lt hi), List.getElem?_replicate] at e
    split at e <;> cases e
/-- THE RULE for a def -/
theorem fnG_mi {P : Program} {w : World} {K : PySem.W.Frag} {mg : Str → Option Value} {base : Heap} {x : Str} {st : Stmt} {a : Addr} {fd : FuncData} {N ps : List Str} {k : Nat} {m : SM} (F : Fun K x x st a fd) (S : FnScope N ps (defScope st))
    (body : ∀ (X : Cx), Amb X (defScope st) (defScope st).names N k → X.prog = P → X.w = w → X.K = K → X.mg = mg → X.base = base → SSs X W0 (defBody st) m) : FnG P w K mg base (k + 1) a fd ps (spF P w K ps.length (runF N.length m)) := by
  refine fnG_of F S (fun vs H Q E h => h.1) (fun cdv A outer s H vs Q E hr gd h => ⟨_, body _ (amb_def S hr gd) rfl rfl rfl rfl rfl, ?_⟩)
  intro kf
  obtain ⟨ι, St, ds, rs, rl, o⟩ := h.2 kf
  refine ⟨ι, St, _, rs, start_rel rl, ?_⟩
  unfold runF at o
  revert o
  cases m (ds.map some ++ List.replicate (N.length - ds.length) none) St with
  | next ρ S' => exact fun o ι' σ' H' st rs' er' => o ι' H' st rs' .non .non
  | ret d S' => exact fun o ι' H' x st rs' rx => o ι' H' st rs' x rx
  | ex e ρ S' => exact fun o ι' σ' H' st rs' er' => o ι' H' st rs'
  | brk ρ S' => exact fun o => o.elim
  | cont ρ S' => exact fun o => o.elim
  | bad => exact fun o => o.elim
theorem fn_ok {P : Program} {w : World} {K : PySem.W.Frag} {mg : Str → Option Value} {base : Heap} {x : Str} {st : Stmt} {a : Addr} {fd : FuncData} {N ps : List Str} {k : Nat} {m : SM} (F : Fun K x x st a fd) (S : FnScope N ps (defScope st)) (hm : mg x = some (.ref a)) (hb : Binds K fd ps [])
    (body : ∀ (X : Cx), Amb X (defScope st) (defScope st).names N k → X.prog = P → X.w = w → X.K = K → X.mg = mg → X.base = base → SSs X W0 (defBody st) m) : FnR P w K mg base x (k + 1) ps.length (runF N.length m) :=
  ⟨a, fd, ps, fnG_mi F S body, hm, F.kp, hb⟩
end Mi
set_option linter.all false
set_option maxRecDepth 100000
/-! Mi, part K: operations on values. -/
namespace Mi
open PySem L2
/-! ### what a value reads as -/
def rd (d : D) (S : Store) : Option D := match d with
  | .loc l => match S[l]? with
    | some (some (.lst xs)) => some (.lst xs)
    | some (some (.dct b ks vs)) => some (.dct b ks vs)
    | _ => none
  | d => some d
def optR (o : Option D) (S : Store) : Res D := match o with
  | some d => .ok d S
  | none => .bad
inductive Vw (P : Program) (w : World) (K : PySem.W.Frag) (ι : Pl) (S : Store) (H : Hp) : V → D → Prop
  | lst {a : Addr} {xs : List V} {ds : List D} : SqL K H a xs → RelL P w K ι S H xs ds → Vw P w K ι S H (.ref a) (.lst ds)
  | dctK {a : Addr} {kvs : List (Key × V)} {vs : List D} : Rd H a (.dK kvs) → (kvs.map (·.1)).Nodup → RelL P w K ι S H (kvs.map (·.2)) vs → Vw P w K ι S H (.ref a) (.dct false (kvs.map fun p => keyD p.1) vs)
  | dctN {a : Addr} {kvs : List (NestedKey × Addr × V)} {ks vs : List D} : Rd H a (NDO P w a kvs) → (kvs.map (·.1)).Nodup → D.keyAll ks = some (kvs.map (·.1)) →
      RelL P w K ι S H (kvs.map fun p => V.ref p.2.1) ks → RelL P w K ι S H (kvs.map (·.2.2)) vs → Vw P w K ι S H (.ref a) (.dct true ks vs)
  | oth {v : V} {d : D} : Rel P w K ι S H v d → (match d with | .lst _ => False | .dct _ _ _ => False | .loc _ => False | _ => True) → Vw P w K ι S H v d
section
variable {P : Program} {w : World} {K : PySem.W.Frag} {ι ι' : Pl} {S S' : Store} {H H' : Hp}
theorem vw_of {v : V} {d d' : D} (rs : RS P w K ι S H) (r : Rel P w K ι S H v d) (h : rd d S = some d') : Vw P w K ι S H v d' := by
  cases d with
  | loc l =>
    cases r with
    | loc e =>
      rename_i a
      unfold rd at h
      dsimp only at h
      cases z : S[l]? with
      | none => rw [z] at h; cases h
      | some oo =>
        cases oo with
        | none => rw [z] at h; cases h
        | some ob =>
          have obr := rs.obj l a ob e z
          rw [z] at h
          cases obr with
          | lst eh rl => cases h; exact .lst (SqL.of eh) rl
          | dctK eh nd rl => cases h; exact .dctK (.inl eh) nd rl
          | dctN eh nd q r1 r2 => cases h; exact .dctN (.inl eh) nd q r1 r2
  | lst l =>
    cases h
    cases r with
    | lst e _ rl => exact .lst e rl
  | dct b ks vs =>
    cases h
    cases r with
    | dctK e _ nd rl => exact .dctK (.inr ⟨_, e⟩) nd rl
    | dctN e _ nd q r1 r2 => exact .dctN (.inr ⟨_, e⟩) nd q r1 r2
  | _ => cases h; exact .oth r trivial
/-! ### plain data -/
mutual
/-- plain data at most n deep -/
def D.flat : Nat → D → Bool
  | _, .non => true
  | _, .bl _ => true
  | _, .int _ => true
  | _, .str x => PyData.strOk x
  | n + 1, .tup l => D.flatAll n l
  | n + 1, .lst l => D.flatAll n l
  | _, _ => false
def D.flatAll : Nat → List D → Bool
  | _, [] => true
  | n, d :: ds => D.flat n d && D.flatAll n ds
end
theorem flat_main : ∀ (j : Nat), (∀ (n : Nat) (d : D) (v : V), sizeOf d ≤ j → D.flat n d = true → Vw P w K ι S H v d → Dp K H v d.py ∧ d.py.canLay0 = true ∧ d.py.depth ≤ n) ∧
    (∀ (n : Nat) (ds : List D) (vs : List V), sizeOf ds ≤ j → D.flatAll n ds = true → RelL P w K ι S H vs ds → DpAll K H vs (D.pyAll ds) ∧ PyData.canLayAll0 (D.pyAll ds) = true ∧ PyData.depthAll (D.pyAll ds) ≤ n) := by
  intro j
  induction j with
  | zero => exact ⟨fun n d v h => by cases d <;> simp at h, fun n ds vs h => by cases ds <;> simp at h⟩
  | succ j ih =>
    refine ⟨fun n d v hs hf r => ?_, fun n ds vs hs hf r => ?_⟩
    · cases r with
      | lst e rl =>
        cases n with
        | zero => simp [D.flat] at hf
        | succ n =>
          simp only [D.flat] at hf
          obtain ⟨h1, h2, h3⟩ := ih.2 n _ _ (by simp at hs; omega) hf rl
          exact ⟨.lst e h1, by simp only [D.py, PyData.canLay0]; exact h2, by simp only [D.py, PyData.depth]; omega⟩
      | dctK _ _ _ => simp [D.flat] at hf
      | dctN _ _ _ _ _ => simp [D.flat] at hf
      | oth r no =>
        cases r with
        | non => exact ⟨.non, by simp [D.py, PyData.canLay0], by simp [D.py, PyData.depth]⟩
        | bl b => exact ⟨.bl b, by simp [D.py, PyData.canLay0], by simp [D.py, PyData.depth]⟩
        | int i => exact ⟨.int i, by simp [D.py, PyData.canLay0], by simp [D.py, PyData.depth]⟩
        | str x => exact ⟨.str x, by simpa [D.py, PyData.canLay0, D.flat] using hf, by simp [D.py, PyData.depth]⟩
        | tup e _ rl =>
          cases n with
          | zero => simp [D.flat] at hf
          | succ n =>
            simp only [D.flat] at hf
            obtain ⟨h1, h2, h3⟩ := ih.2 n _ _ (by simp at hs; omega) hf rl
            exact ⟨.tup (SqT.of e) h1, by simp only [D.py, PyData.canLay0]; exact h2, by simp only [D.py, PyData.depth]; omega⟩
        | rng _ _ => simp [D.flat] at hf
        | _ => exact no.elim
    · cases r with
      | nil => exact ⟨.nil, by simp [D.pyAll, PyData.canLayAll0], by simp [D.pyAll, PyData.depthAll]⟩
      | cons r1 r2 =>
        rename_i v vs d ds
        simp only [D.flatAll, Bool.and_eq_true] at hf
        have hv : Vw P w K ι S H v d := by
          cases r1 with
          | lst e _ rl => exact .lst e rl
          | dctK e _ nd rl => exact .dctK (.inr ⟨_, e⟩) nd rl
          | dctN e _ nd q r1 r2 => exact .dctN (.inr ⟨_, e⟩) nd q r1 r2
          | loc e => simp [D.flat] at hf
          | non => exact .oth .non trivial
          | bl b => exact .oth (.bl b) trivial
          | int b => exact .oth (.int b) trivial
          | str b => exact .oth (.str b) trivial
          | tup e n r => exact .oth (.tup e n r) trivial
          | rng e n => exact .oth (.rng e n) trivial
        obtain ⟨h1, h2, h3⟩ := ih.1 n d v (by simp at hs; omega) hf.1 hv
        obtain ⟨g1, g2, g3⟩ := ih.2 n ds vs (by simp at hs; omega) hf.2 r2
        exact ⟨.cons h1 g1, by simp only [D.pyAll, PyData.canLayAll0, h2, g2]; rfl, by simp only [D.pyAll, PyData.depthAll]; omega⟩
theorem flat_dp {n : Nat} {d : D} {v : V} (hn : n ≤ 64) (hf : D.flat n d = true) (r : Vw P w K ι S H v d) : Dp K H v d.py ∧ SeqAt.shaped d.py = true := by
  obtain ⟨h1, h2, h3⟩ := (flat_main (sizeOf d)).1 n d v (Nat.le_refl _) hf r
  refine ⟨h1, ?_⟩
  show (d.py.canLay0 && decide (d.py.depth ≤ 64)) = true
  rw [Bool.and_eq_true]
  exact ⟨h2, decide_eq_true (by omega)⟩
end
section
variable {X : Cx} {W : WE} {sc : Scope} {ow : List (Str × NameKind)} {N : List Str} {k : Nat}
/-! ### ints -/
def i2 (f : Int → Int → D) (x y : D) (S : Store) : Res D := match x, y with
  | .int i, .int j => .ok (f i j) S
  | _, _ => .bad
def i2c (c : Int → Int → Bool) (f : Int → Int → D) (x y : D) (S : Store) : Res D := match x, y with
  | .int i, .int j => if c i j = true then .ok (f i j) S else .bad
  | _, _ => .bad
def b2 (f : Int → Int → Bool) (x y : D) (S : Store) : Res Bool := match x, y with
  | .int i, .int j => .ok (f i j) S
  | _, _ => .bad
theorem ok_i2 {f : Int → Int → Int} : OpOk X W (rI0 fun i j => .int (f i j)) (i2 fun i j => .int (f i j)) := by
  intro σ ι S H x y dx dy Q rs rx ry h
  cases dx with
  | int i =>
    cases dy with
    | int j => cases rx; cases ry; exact ⟨i, j, rfl, rfl, fun _ => Out.now h rs _ (.int _)⟩
    | _ => exact h.elim
  | _ => exact h.elim
theorem ok_i2c {C : Int → Int → Prop} {c : Int → Int → Bool} {f : Int → Int → Int} (hc : ∀ i j, c i j = true → C i j) : OpOk X W (L2.rI C fun i j => .int (f i j)) (i2c c fun i j => .int (f i j)) := by
  intro σ ι S H x y dx dy Q rs rx ry h
  cases dx with
  | int i =>
    cases dy with
    | int j =>
      cases rx; cases ry
      unfold i2c at h
      dsimp only at h
      by_cases z : c i j = true
      · rw [if_pos z] at h
        exact ⟨i, j, rfl, rfl, hc i j z, fun _ => Out.now h rs _ (.int _)⟩
      · rw [if_neg z] at h; exact h.elim
    | _ => exact h.elim
  | _ => exact h.elim
theorem ok_b2 {f : Int → Int → Bool} : OpOk X W (rI0 fun i j => .bl (f i j)) (fB (b2 f)) := by
  intro σ ι S H x y dx dy Q rs rx ry h
  cases dx with
  | int i =>
    cases dy with
    | int j => cases rx; cases ry; exact ⟨i, j, rfl, rfl, fun _ => Out.now h rs _ (.bl _)⟩
    | _ => exact h.elim
  | _ => exact h.elim
def subD : D → D → Store → Res D := i2 fun i j => .int (i - j)
def mulC (i j : Int) : Bool := decide (i.natAbs < 18446744073709551616) || decide (j.natAbs < 18446744073709551616)
def mulD : D → D → Store → Res D := i2c mulC fun i j => .int (i * j)
def modD : D → D → Store → Res D := i2c (fun _ j => decide (0 < j)) fun i j => .int (i % j)
def divD : D → D → Store → Res D := i2c (fun _ j => decide (0 < j) && decide (j < 1073741824)) fun i j => .int (i / j)
def powD : D → D → Store → Res D := i2c (fun i j => decide (0 ≤ j) && decide (j ≤ 1000000) && decide (i.natAbs < 18446744073709551616)) fun i j => .int (i ^ j.toNat)
def ltD : D → D → Store → Res Bool := b2 fun i j => decide (i < j)
def leD : D → D → Store → Res Bool := b2 fun i j => decide (i ≤ j)
def gtD : D → D → Store → Res Bool := b2 fun i j => decide (j < i)
def geD : D → D → Store → Res Bool := b2 fun i j => decide (j ≤ i)
variable {a b e : Expr} {ma mb : EM} {pos : Pos}
theorem se_sub (ha : SE X W a ma) (hb : SE X W b mb) : SE X W (.BinOp a .Sub b pos) (eOp2 subD ma mb) := se_bin op_sub ok_i2 ha hb
theorem se_mul (ha : SE X W a ma) (hb : SE X W b mb) : SE X W (.BinOp a .Mult b pos) (eOp2 mulD ma mb) := se_bin op_mul (ok_i2c fun i j h => by
  simp only [mulC, Bool.or_eq_true, decide_eq_true_eq] at h
  unfold CMul
  omega) ha hb
theorem se_mod (ha : SE X W a ma) (hb : SE X W b mb) : SE X W (.BinOp a .Mod b pos) (eOp2 modD ma mb) := se_bin op_mod (ok_i2c fun i j h => by simpa using h) ha hb
theorem se_div (ha : SE X W a ma) (hb : SE X W b mb) : SE X W (.BinOp a .FloorDiv b pos) (eOp2 divD ma mb) := se_bin op_fdiv (ok_i2c fun i j h => by simpa [CDiv] using h) ha hb
theorem se_pow (ha : SE X W a ma) (hb : SE X W b mb) : SE X W (.BinOp a .Pow b pos) (eOp2 powD ma mb) := se_bin op_pow (ok_i2c fun i j h => by simpa [CPow, and_assoc] using h) ha hb
theorem st_lt (ha : SE X W a ma) (hb : SE X W b mb) (hm : behindInMarks .Lt b = false := by rfl) : ST X W (.Compare a [.Lt] [b] pos) (tOp2 ltD ma mb) := st_cmp op_lt ok_b2 ha hb hm
theorem st_le (ha : SE X W a ma) (hb : SE X W b mb) (hm : behindInMarks .LtE b = false := by rfl) : ST X W (.Compare a [.LtE] [b] pos) (tOp2 leD ma mb) := st_cmp op_le ok_b2 ha hb hm
theorem st_gt (ha : SE X W a ma) (hb : SE X W b mb) (hm : behindInMarks .Gt b = false := by rfl) : ST X W (.Compare a [.Gt] [b] pos) (tOp2 gtD ma mb) := st_cmp op_gt ok_b2 ha hb hm
theorem st_ge (ha : SE X W a ma) (hb : SE X W b mb) (hm : behindInMarks .GtE b = false := by rfl) : ST X W (.Compare a [.GtE] [b] pos) (tOp2 geD ma mb) := st_cmp op_ge ok_b2 ha hb hm
theorem se_lt (ha : SE X W a ma) (hb : SE X W b mb) (hm : behindInMarks .Lt b = false := by rfl) : SE X W (.Compare a [.Lt] [b] pos) (eB (tOp2 ltD ma mb)) := se_cmp op_lt ok_b2 ha hb hm
theorem se_le (ha : SE X W a ma) (hb : SE X W b mb) (hm : behindInMarks .LtE b = false := by rfl) : SE X W (.Compare a [.LtE] [b] pos) (eB (tOp2 leD ma mb)) := se_cmp op_le ok_b2 ha hb hm
theorem se_gt (ha : SE X W a ma) (hb : SE X W b mb) (hm : behindInMarks .Gt b = false := by rfl) : SE X W (.Compare a [.Gt] [b] pos) (eB (tOp2 gtD ma mb)) := se_cmp op_gt ok_b2 ha hb hm
theorem se_ge (ha : SE X W a ma) (hb : SE X W b mb) (hm : behindInMarks .GtE b = false := by rfl) : SE X W (.Compare a [.GtE] [b] pos) (eB (tOp2 geD ma mb)) := se_cmp op_ge ok_b2 ha hb hm
def negD (x : D) (S : Store) : Res D := match x with
  | .int i => .ok (.int (-i)) S
  | _ => .bad
theorem se_neg (ha : SE X W a ma) : SE X W (.UnaryOp .USub a pos) (eOp1 negD ma) := se_un un_neg (fun σ ι S H x dx Q rs rx h => by
  cases dx with
  | int i => cases rx; exact ⟨i, rfl, fun _ => Out.now h rs _ (.int _)⟩
  | _ => exact h.elim) ha
/-! ### + of ints, tuples, texts; of lists -/
def addD (x y : D) (S : Store) : Res D := match x, y with
  | .int i, .int j => .ok (.int (i + j)) S
  | .tup l, .tup m => if l.length + m.length ≤ sizeLine then .ok (.tup (l ++ m)) S else .bad
  | .str a, .str b => if a.length + b.length ≤ sizeLine then .ok (.str (a ++ b)) S else .bad
  | _, _ => .bad
theorem ok_add : OpOk X W (fun x y H Q => rI0 (fun i j => .int (i + j)) x y H Q ∨ rCatA X.K x y H Q ∨ ∃ i j, x = .str i ∧ y = .str j ∧ i.length + j.length ≤ sizeLine ∧ Q (.str (i ++ j)) H) addD := by
  intro σ ι S H x y dx dy Q rs rx ry h
  cases dx with
  | int i =>
    cases dy with
    | int j => cases rx; cases ry; exact .inl ⟨i, j, rfl, rfl, fun _ => Out.now h rs _ (.int _)⟩
    | _ => exact h.elim
  | str i =>
    cases dy with
    | str j =>
      cases rx; cases ry
      unfold addD at h
      dsimp only at h
      by_cases z : i.length + j.length ≤ sizeLine
      · rw [if_pos z] at h
        exact .inr (.inr ⟨i, j, rfl, rfl, z, fun _ => Out.now h rs _ (.str _)⟩)
      · rw [if_neg z] at h; exact h.elim
    | _ => exact h.elim
  | tup l =>
    cases dy with
    | tup m =>
      unfold addD at h
      dsimp only at h
      by_cases z : l.length + m.length ≤ sizeLine
      · rw [if_pos z] at h
        cases rx with
        | tup e1 n1 r1 =>
          cases ry with
          | tup e2 n2 r2 =>
            refine .inr (.inl ⟨_, _, _, _, rfl, rfl, SqT.of e1, SqT.of e2, by rw [RelL.length r1, RelL.length r2]; exact z, fun he _ => ?_, fun _ he _ => ?_, fun _ _ p hp kf => ?_⟩)
            · subst he
              cases r1
              exact Out.now h rs _ (.tup e2 n2 r2)
            · subst he
              cases r2
              rw [List.append_nil] at h
              exact Out.now h rs _ (.tup e1 n1 r1)
            · obtain ⟨st, rs2, nm⟩ := RS.new rs hp kf
              exact h ι _ st rs2 _ (.tup upd_same nm ((RelL.mono st rs2 _ _ r1).append (RelL.mono st rs2 _ _ r2)))
      · rw [if_neg z] at h; exact h.elim
    | _ => exact h.elim
  | _ => exact h.elim
theorem se_add (ha : SE X W a ma) (hb : SE X W b mb) : SE X W (.BinOp a .Add b pos) (eOp2 addD ma mb) := se_bin (op_add.or (op_catA.or op_add_str)) ok_add ha hb
def rCatL (K : PySem.W.Frag) : R2 := fun x y H Q => ∃ l b xs zs, x = .ref l ∧ y = .ref b ∧ SqL K H l xs ∧ SqL K H b zs ∧ xs.length + zs.length ≤ sizeLine ∧ ∀ p, H p = none → Q (.ref p) (upd H p (.lst (xs ++ zs)))
theorem op_catL : OpR X (binaryOp .Add) (rCatL X.K) := by
  intro pins s σ H x y v u Q I rx ry h
  obtain ⟨l, b, xs, zs, rfl, rfl, hA, hB, hz, q⟩ := h
  cases rx
  cases ry
  obtain ⟨its, r, ⟨⟨cls, dd, data, sl⟩, n, e, hc, hdn, hdt⟩, hl⟩ := I.list hA
  obtain ⟨its2, r2, ⟨⟨cls2, dd2, data2, sl2⟩, n2, e2, hc2, hdn2, hdt2⟩, hl2⟩ := I.list hB
  simp only at hc hdt hc2 hdt2
  subst hc hdt hc2 hdt2
  have w1 := r.length
  have w2 := r2.length
  refine concat_meets ⟨_, e, rfl⟩ ⟨_, e2, rfl⟩ PySem.noFill_list_add PySem.seq_list_add PySem.F.slot_list_add PySem.F.entry_list_add (PySem.F.args_list_add_2 _ _) (PyProof.Rows.list_addW l b its.toArray its2.toArray n n2 dd dd2 sl sl2 (by simp; omega)) ⟨e, e2, ?_⟩
  have joined : its.toArray ++ its2.toArray = (its ++ its2).toArray := by simp
  rw [joined]
  exact ⟨.ref _, _, I.lnew (t' := s.toks) (r.append r2) (by rw [List.length_append]; exact hz), rfl, q _ I.fresh⟩
def lAdd (x y : D) (S : Store) : Res (List D) := match rd x S, rd y S with
  | some (.lst l), some (.lst m) => if l.length + m.length ≤ sizeLine then .ok (l ++ m) S else .bad
  | _, _ => .bad
theorem ok_lAdd : OpOkL X W (rCatL X.K) lAdd := by
  intro σ ι S H x y dx dy Q rs rx ry h
  unfold lAdd at h
  cases e1 : rd dx S with
  | none => rw [e1] at h; exact h.elim
  | some d1 =>
    cases e2 : rd dy S with
    | none => rw [e1, e2] at h; cases d1 <;> exact h.elim
    | some d2 =>
      rw [e1, e2] at h
      have v1 := vw_of rs rx e1
      have v2 := vw_of rs ry e2
      cases d1 with
      | lst l =>
        cases d2 with
        | lst m =>
          dsimp only at h
          by_cases z : l.length + m.length ≤ sizeLine
          · rw [if_pos z] at h
            cases v1 with
            | oth _ no => exact no.elim
            | lst s1 r1 =>
              cases v2 with
              | oth _ no => exact no.elim
              | lst s2 r2 =>
                exact ⟨_, _, _, _, rfl, rfl, s1, s2, by rw [RelL.length r1, RelL.length r2]; exact z, fun p hp kf => Out.now h rs p _ hp (r1.append r2)⟩
          · rw [if_neg z] at h; exact h.elim
        | _ => exact h.elim
      | _ => exact h.elim
theorem sl_add (ha : SE X W a ma) (hb : SE X W b mb) : SL X W (.BinOp a .Add b pos) (lOp2 lAdd ma mb) := sl_bin op_catL ok_lAdd ha hb
/-! ### == and != -/
/-- == of plain data -/
def eqD (x y : D) (S : Store) : Res Bool := match rd x S, rd y S with
  | some (.str a), some (.str b) => .ok (a == b) S
  | some x', some y' => if (D.flat 60 x' && D.flat 60 y') = true then .ok (PyData.eqv x'.py y'.py) S else .bad
  | _, _ => .bad
def neD (x y : D) (S : Store) : Res Bool := (eqD x y S).bind fun k S => .ok (!k) S
theorem rd_str {d : D} {S : Store} {a : Str} (h : rd d S = some (.str a)) : d = .str a := by
  cases d with
  | loc l =>
    unfold rd at h
    dsimp only at h
    split at h <;> cases h
  | str b => cases h; rfl
  | _ => cases h
theorem eqD_is {x y : D} {S : Store} {ι : Pl} {H : Hp} {vx vy : V} {β : Type} {R : Pl → Store → Hp → β → Prop} {σ : St} {f : Bool → Store → Res β} (rs : RS X.prog X.w X.K ι S H) (rx : Rel X.prog X.w X.K ι S H vx x) (ry : Rel X.prog X.w X.K ι S H vy y)
    (h : Out X.prog X.w X.K W σ ι S H ((eqD x y S).bind f) R) : (∃ d e, Dp X.K H vx d ∧ Dp X.K H vy e ∧ SeqAt.shaped d = true ∧ SeqAt.shaped e = true ∧ Out X.prog X.w X.K W σ ι S H (f (PyData.eqv d e) S) R) ∨ ∃ a b, vx = .str a ∧ vy = .str b ∧ Out X.prog X.w X.K W σ ι S H (f (a == b) S) R := by
  unfold eqD at h
  cases e1 : rd x S with
  | none => rw [e1] at h; exact h.elim
  | some d1 =>
    cases e2 : rd y S with
    | none => rw [e1, e2] at h; cases d1 <;> exact h.elim
    | some d2 =>
      by_cases hs : (∃ a, d1 = .str a) ∧ ∃ b, d2 = .str b
      · obtain ⟨⟨a, rfl⟩, b, rfl⟩ := hs
        rw [e1, e2] at h
        cases rd_str e1
        cases rd_str e2
        cases rx
        cases ry
        exact .inr ⟨a, b, rfl, rfl, h⟩
      · have h2 : Out X.prog X.w X.K W σ ι S H ((if (D.flat 60 d1 && D.flat 60 d2) = true then Res.ok (PyData.eqv d1.py d2.py) S else .bad).bind f) R := by
          rw [e1, e2] at h
          cases d1 with
          | str a =>
            cases d2 with
            | str b => exact absurd ⟨⟨a, rfl⟩, b, rfl⟩ hs
            | _ => exact h
          | _ => exact h
        by_cases z : (D.flat 60 d1 && D.flat 60 d2) = true
        · rw [if_pos z] at h2
          rw [Bool.and_eq_true] at z
          obtain ⟨p1, q1⟩ := flat_dp (by omega) z.1 (vw_of rs rx e1)
          obtain ⟨p2, q2⟩ := flat_dp (by omega) z.2 (vw_of rs ry e2)
          exact .inl ⟨_, _, p1, p2, q1, q2, h2⟩
        · rw [if_neg z] at h2; exact h2.elim
theorem ok_eq : OpOk X W (fun x y H Q => rEqD X.K x y H Q ∨ rEq x y H Q) (fB eqD) := by
  intro σ ι S H x y dx dy Q rs rx ry h
  rcases eqD_is rs rx ry h with ⟨d, e, h1, h2, h3, h4, o⟩ | ⟨a, b, rfl, rfl, o⟩
  · exact .inl ⟨d, e, h1, h2, h3, h4, fun _ => Out.now o rs _ (.bl _)⟩
  · refine .inr ⟨rfl, fun _ => ?_⟩
    rw [dec_str]
    exact Out.now o rs _ (.bl _)
theorem ok_ne : OpOk X W (fun x y H Q => rNeD X.K x y H Q ∨ rNe x y H Q) (fB neD) := by
  intro σ ι S H x y dx dy Q rs rx ry h
  unfold fB neD at h
  rw [Res.bind_assoc] at h
  rcases eqD_is rs rx ry h with ⟨d, e, h1, h2, h3, h4, o⟩ | ⟨a, b, rfl, rfl, o⟩
  · exact .inl ⟨d, e, h1, h2, h3, h4, fun _ => Out.now o rs _ (.bl _)⟩
  · refine .inr ⟨rfl, fun _ => ?_⟩
    rw [dec_str]
    exact Out.now o rs _ (.bl _)
theorem Amb.units (A : Amb X sc ow N k) : X.A.units + 65 < cLine := by have := A.room.un; omega
theorem st_eq (A : Amb X sc ow N k) (ha : SE X W a ma) (hb : SE X W b mb) (hm : behindInMarks .Eq b = false := by rfl) : ST X W (.Compare a [.Eq] [b] pos) (tOp2 eqD ma mb) := st_cmp ((op_eqD (by have := A.units; omega)).or op_eq) ok_eq ha hb hm
theorem st_ne (A : Amb X sc ow N k) (ha : SE X W a ma) (hb : SE X W b mb) (hm : behindInMarks .NotEq b = false := by rfl) : ST X W (.Compare a [.NotEq] [b] pos) (tOp2 neD ma mb) := st_cmp ((op_neD (by have := A.units; omega)).or op_ne) ok_ne ha hb hm
theorem se_eq (A : Amb X sc ow N k) (ha : SE X W a ma) (hb : SE X W b mb) (hm : behindInMarks .Eq b = false := by rfl) : SE X W (.Compare a [.Eq] [b] pos) (eB (tOp2 eqD ma mb)) := se_cmp ((op_eqD (by have := A.units; omega)).or op_eq) ok_eq ha hb hm
theorem se_ne (A : Amb X sc ow N k) (ha : SE X W a ma) (hb : SE X W b mb) (hm : behindInMarks .NotEq b = false := by rfl) : SE X W (.Compare a [.NotEq] [b] pos) (eB (tOp2 neD ma mb)) := se_cmp ((op_neD (by have := A.units; omega)).or op_ne) ok_ne ha hb hm
/-! ### is None -/
def D.isNon : D → Bool
  | .non => true
  | _ => false
def isN (x y : D) (S : Store) : Res Bool := match y with
  | .non => .ok x.isNon S
  | _ => .bad
def notN (x y : D) (S : Store) : Res Bool := match y with
  | .non => .ok (!x.isNon) S
  | _ => .bad
theorem rel_non {P : Program} {w : World} {K : PySem.W.Frag} {ι : Pl} {S : Store} {H : Hp} {v : V} {d : D} (r : Rel P w K ι S H v d) : decide (v = .non) = d.isNon := by cases r <;> rfl
theorem ok_isN : OpOk X W (fun x y H Q => y = .non ∧ Q (.bl (decide (x = .non))) H) (fB isN) := by
  intro σ ι S H x y dx dy Q rs rx ry h
  cases dy with
  | non =>
    cases ry
    rw [rel_non rx]
    exact ⟨rfl, fun _ => Out.now h rs _ (.bl _)⟩
  | _ => exact h.elim
theorem ok_notN : OpOk X W (fun x y H Q => y = .non ∧ Q (.bl (!decide (x = .non))) H) (fB notN) := by
  intro σ ι S H x y dx dy Q rs rx ry h
  cases dy with
  | non =>
    cases ry
    rw [rel_non rx]
    exact ⟨rfl, fun _ => Out.now h rs _ (.bl _)⟩
  | _ => exact h.elim
theorem st_isN (ha : SE X W a ma) (hb : SE X W b mb) (hm : behindInMarks .Is b = false := by rfl) : ST X W (.Compare a [.Is] [b] pos) (tOp2 isN ma mb) := st_cmp op_isN ok_isN ha hb hm
theorem st_notN (ha : SE X W a ma) (hb : SE X W b mb) (hm : behindInMarks .IsNot b = false := by rfl) : ST X W (.Compare a [.IsNot] [b] pos) (tOp2 notN ma mb) := st_cmp op_notN ok_notN ha hb hm
theorem se_isN (ha : SE X W a ma) (hb : SE X W b mb) (hm : behindInMarks .Is b = false := by rfl) : SE X W (.Compare a [.Is] [b] pos) (eB (tOp2 isN ma mb)) := se_cmp op_isN ok_isN ha hb hm
theorem se_notN (ha : SE X W a ma) (hb : SE X W b mb) (hm : behindInMarks .IsNot b = false := by rfl) : SE X W (.Compare a [.IsNot] [b] pos) (eB (tOp2 notN ma mb)) := se_cmp op_notN ok_notN ha hb hm
/-! ### in, not in: of lists, tuples -/
def inD (x y : D) (S : Store) : Res Bool := match rd x S, rd y S with
  | some x', some (.lst l) => if (D.flat 60 x' && D.flatAll 60 l) = true then .ok ((D.pyAll l).any fun z => PyData.eqv z x'.py) S else .bad
  | some x', some (.tup l) => if (D.flat 60 x' && D.flatAll 60 l) = true then .ok ((D.pyAll l).any fun z => PyData.eqv z x'.py) S else .bad
  | _, _ => .bad
def ninD (x y : D) (S : Store) : Res Bool := (inD x y S).bind fun k S => .ok (!k) S
def rInQ (K : PySem.W.Frag) (n : Bool) : R2 := fun x y H Q => ∃ d ds, Dp K H x d ∧ (Dp K H y (.list ds) ∨ Dp K H y (.tuple ds)) ∧ SeqAt.shaped d = true ∧ PyData.canLayAll0 ds = true ∧ Q (.bl (xor n (ds.any fun z => PyData.eqv z d))) H
theorem op_inQ (hu : X.A.units + 65 < cLine) : OpR X (compareOp .In) (rInQ X.K false) := by
  intro pins s σ H x y v u Q I rx ry h
  obtain ⟨d, ds, hd, hs, sd, se, q⟩ := h
  rw [Bool.false_xor] at q
  obtain ⟨as, r1⟩ := Dp.reads I d x v hd rx
  rcases hs with he | he
  · obtain ⟨bs, r2⟩ := Dp.reads I (.list ds) y u he ry
    exact SeqAt.in_list_reads r2 r1 se (SeqAt.canLay_of_shaped sd) (PyProof.Rows.room_in_shaped sd hu) ⟨.bl _, H, I, rfl, q⟩
  · obtain ⟨bs, r2⟩ := Dp.reads I (.tuple ds) y u he ry
    exact SeqAt.in_tuple_reads r2 r1 se (SeqAt.canLay_of_shaped sd) (PyProof.Rows.room_in_shaped sd hu) ⟨.bl _, H, I, rfl, q⟩
theorem op_ninQ (hu : X.A.units + 65 < cLine) : OpR X (compareOp .NotIn) (rInQ X.K true) := by
  intro pins s σ H x y v u Q I rx ry h
  obtain ⟨d, ds, hd, hs, sd, se, q⟩ := h
  rw [Bool.true_xor] at q
  obtain ⟨as, r1⟩ := Dp.reads I d x v hd rx
  rcases hs with he | he
  · obtain ⟨bs, r2⟩ := Dp.reads I (.list ds) y u he ry
    exact SeqAt.notIn_list_reads r2 r1 se (SeqAt.canLay_of_shaped sd) (PyProof.Rows.room_in_shaped sd hu) ⟨.bl _, H, I, rfl, q⟩
  · obtain ⟨bs, r2⟩ := Dp.reads I (.tuple ds) y u he ry
    exact SeqAt.notIn_tuple_reads r2 r1 se (SeqAt.canLay_of_shaped sd) (PyProof.Rows.room_in_shaped sd hu) ⟨.bl _, H, I, rfl, q⟩
theorem inD_is {x y : D} {S : Store} {ι : Pl} {H : Hp} {vx vy : V} {β : Type} {R : Pl → Store → Hp → β → Prop} {σ : St} {f : Bool → Store → Res β} (rs : RS X.prog X.w X.K ι S H) (rx : Rel X.prog X.w X.K ι S H vx x) (ry : Rel X.prog X.w X.K ι S H vy y)
    (h : Out X.prog X.w X.K W σ ι S H ((inD x y S).bind f) R) : ∃ d ds, Dp X.K H vx d ∧ (Dp X.K H vy (.list ds) ∨ Dp X.K H vy (.tuple ds)) ∧ SeqAt.shaped d = true ∧ PyData.canLayAll0 ds = true ∧ Out X.prog X.w X.K W σ ι S H (f (ds.any fun z => PyData.eqv z d) S) R := by
  unfold inD at h
  cases e1 : rd x S with
  | none => rw [e1] at h; exact h.elim
  | some d1 =>
    cases e2 : rd y S with
    | none => rw [e1, e2] at h; exact h.elim
    | some d2 =>
      rw [e1, e2] at h
      have v2 := vw_of rs ry e2
      have main : ∀ l, (D.flat 60 d1 && D.flatAll 60 l) = true → ∀ xs, RelL X.prog X.w X.K ι S H xs l → DpAll X.K H xs (D.pyAll l) ∧ PyData.canLayAll0 (D.pyAll l) = true ∧ Dp X.K H vx d1.py ∧ SeqAt.shaped d1.py = true := by
        intro l z xs rl
        rw [Bool.and_eq_true] at z
        obtain ⟨p1, q1⟩ := flat_dp (by omega) z.1 (vw_of rs rx e1)
        obtain ⟨g1, g2, g3⟩ := (flat_main (sizeOf l)).2 60 l xs (Nat.le_refl _) z.2 rl
        exact ⟨g1, g2, p1, q1⟩
      cases d2 with
      | lst l =>
        dsimp only at h
        by_cases z : (D.flat 60 d1 && D.flatAll 60 l) = true
        · rw [if_pos z] at h
          cases v2 with
          | oth _ no => exact no.elim
          | lst s2 r2 =>
            obtain ⟨g1, g2, p1, q1⟩ := main l z _ r2
            exact ⟨_, _, p1, .inl (.lst s2 g1), q1, g2, h⟩
        · rw [if_neg z] at h; exact h.elim
      | tup l =>
        dsimp only at h
        by_cases z : (D.flat 60 d1 && D.flatAll 60 l) = true
        · rw [if_pos z] at h
          cases v2 with
          | oth r2 no =>
            cases r2 with
            | tup e2 n2 r2 =>
              obtain ⟨g1, g2, p1, q1⟩ := main l z _ r2
              exact ⟨_, _, p1, .inr (.tup (SqT.of e2) g1), q1, g2, h⟩
        · rw [if_neg z] at h; exact h.elim
      | _ => exact h.elim
theorem ok_in : OpOk X W (rInQ X.K false) (fB inD) := by
  intro σ ι S H x y dx dy Q rs rx ry h
  obtain ⟨d, e, h1, h2, h3, h4, o⟩ := inD_is rs rx ry h
  exact ⟨d, e, h1, h2, h3, h4, fun _ => by rw [Bool.false_xor]; exact Out.now o rs _ (.bl _)⟩
theorem ok_nin : OpOk X W (rInQ X.K true) (fB ninD) := by
  intro σ ι S H x y dx dy Q rs rx ry h
  unfold fB ninD at h
  rw [Res.bind_assoc] at h
  obtain ⟨d, e, h1, h2, h3, h4, o⟩ := inD_is rs rx ry h
  exact ⟨d, e, h1, h2, h3, h4, fun _ => by rw [Bool.true_xor]; exact Out.now o rs _ (.bl _)⟩
theorem st_in (A : Amb X sc ow N k) (ha : SE X W a ma) (hb : SE X W b mb) (hm : behindInMarks .In b = false := by rfl) : ST X W (.Compare a [.In] [b] pos) (tOp2 inD ma mb) := st_cmp (op_inQ A.units) ok_in ha hb hm
theorem st_nin (A : Amb X sc ow N k) (ha : SE X W a ma) (hb : SE X W b mb) (hm : behindInMarks .NotIn b = false := by rfl) : ST X W (.Compare a [.NotIn] [b] pos) (tOp2 ninD ma mb) := st_cmp (op_ninQ A.units) ok_nin ha hb hm
theorem se_in (A : Amb X sc ow N k) (ha : SE X W a ma) (hb : SE X W b mb) (hm : behindInMarks .In b = false := by rfl) : SE X W (.Compare a [.In] [b] pos) (eB (tOp2 inD ma mb)) := se_cmp (op_inQ A.units) ok_in ha hb hm
theorem se_nin (A : Amb X sc ow N k) (ha : SE X W a ma) (hb : SE X W b mb) (hm : behindInMarks .NotIn b = false := by rfl) : SE X W (.Compare a [.NotIn] [b] pos) (eB (tOp2 ninD ma mb)) := se_cmp (op_ninQ A.units) ok_nin ha hb hm
end
end Mi
set_option linter.all false
set_option maxRecDepth 100000
/-! Mi, part L: subscripts, slices, builtins. -/
namespace Mi
open PySem L2
/-! ### dict reading -/
def D.keyIs (k : NestedKey) (d : D) : Bool := decide (d.key = some k)
/-- the value at a key -/
def dGet : List D → List D → NestedKey → Option D
  | k :: ks, v :: vs, x => if D.keyIs x k = true then some v else dGet ks vs x
  | _, _, _ => none
section
variable {X : Cx} {W : WE} {sc : Scope} {ow : List (Str × NameKind)} {N : List Str} {k : Nat}
variable {a b e : Expr} {ma mb : EM} {pos : Pos}
/-! ### xs[i] -/
def idxS (x y : D) (S : Store) : Res D := match rd x S, y with
  | some (.lst l), .int i => optR (atI l i) S
  | some (.tup l), .int i => optR (atI l i) S
  | _, _ => .bad
theorem RelL.at {P : Program} {w : World} {K : PySem.W.Frag} {ι : Pl} {S : Store} {H : Hp} {ds : List D} {xs : List V} {i : Int} {d : D} (r : RelL P w K ι S H xs ds) (h : atI ds i = some d) : ∃ v, atI xs i = some v ∧ Rel P w K ι S H v d := by
  unfold atI at h ⊢
  rw [RelL.length r]
  cases z : ixN ds.length i with
  | none => rw [z] at h; cases h
  | some j => rw [z] at h; exact r.get h
theorem ok_idxS : OpOk X W (fun x y H Q => rIxL X.K x y H Q ∨ rIxT X.K x y H Q) idxS := by
  intro σ ι S H x y dx dy Q rs rx ry h
  unfold idxS at h
  cases e1 : rd dx S with
  | none => rw [e1] at h; exact h.elim
  | some d1 =>
    rw [e1] at h
    have v1 := vw_of rs rx e1
    cases d1 with
    | lst l =>
      cases dy with
      | int i =>
        cases ry
        dsimp only at h
        cases z : atI l i with
        | none => rw [z] at h; exact h.elim
        | some d =>
          rw [z] at h
          cases v1 with
          | oth _ no => exact no.elim
          | lst s1 r1 =>
            obtain ⟨v, hv, rv⟩ := r1.at z
            exact .inl ⟨_, _, _, v, rfl, rfl, s1, hv, fun _ => Out.now h rs _ rv⟩
      | _ => exact h.elim
    | tup l =>
      cases dy with
      | int i =>
        cases ry
        dsimp only at h
        cases z : atI l i with
        | none => rw [z] at h; exact h.elim
        | some d =>
          rw [z] at h
          cases v1 with
          | oth r no =>
            cases r with
            | tup e1 n1 r1 =>
              obtain ⟨v, hv, rv⟩ := r1.at z
              exact .inr ⟨_, _, _, v, rfl, rfl, SqT.of e1, hv, fun _ => Out.now h rs _ rv⟩
      | _ => exact h.elim
    | _ => exact h.elim
theorem se_idx (ha : SE X W a ma) (hb : SE X W b mb) (hs : PlainIx b := by intro _ _; rfl) : SE X W (.Subscript a b pos) (eOp2 idxS ma mb) :=
  PE.use (pe_ix (ix_list.or ix_tup) ha hb hs) fun _ _ _ kf q => run2 ok_idxS kf q
/-! ### xs[lo:hi] -/
def cutD (l : List D) (lo hi : Option Int) : List D := (l.drop (HT.sIx l.length 0 lo)).take (HT.sIx l.length l.length hi - HT.sIx l.length 0 lo)
abbrev OM := Env → Store → Res (Option Int)
def oNone : OM := fun _ S => .ok none S
def oSome (m : EM) : OM := fun ρ S => (m ρ S).bind fun d S1 => match d with
  | .int i => .ok (some i) S1
  | _ => .bad
def rO (P : Program) (w : World) (K : PySem.W.Frag) (W : WE) (m : OM) : TO := fun σ H Q => KF K H → ∃ ι S ρ, RS P w K ι S H ∧ EnvR P w K ι S ρ σ H ∧ Out P w K W σ ι S H (m ρ S) fun ι' S' H' o => Q o H'
abbrev SO (X : Cx) (W : WE) (e : Option Expr) (m : OM) : Prop := PO X e (rO X.prog X.w X.K W m)
theorem PO.use {e : Option Expr} {t t' : TO} (h : PO X e t) (i : ∀ σ H Q, KF X.K H → t' σ H Q → t σ H fun x H' => KF X.K H' → Q x H') : PO X e t' :=
  ⟨fun pins s σ H Q I q => thn (h.run pins s σ H _ I (i σ H Q (invKF I) q)) fun _ _ ⟨v, H', I', r, f⟩ => ⟨v, H', I', r, f (invKF I')⟩⟩
theorem so_none : SO X W none oNone := PO.use po_none fun σ H Q kf q => by
  obtain ⟨ι, S, ρ, rs, er, o⟩ := q kf
  exact fun _ => Out.now o rs
theorem so_some (h : SE X W e ma) : SO X W (some e) (oSome ma) := PO.use (po_some h) fun σ H Q kf q => by
  obtain ⟨ι, S, ρ, rs, er, o⟩ := q kf
  refine fun _ => ⟨ι, S, ρ, rs, er, Out.mono (Out.bind o) fun ι1 S1 H1 dx st1 rs1 h1 x rx => ?_⟩
  cases dx with
  | int i => cases rx; exact ⟨i, rfl, fun _ => Out.now h1 rs1⟩
  | _ => exact h1.elim
theorem RelL.drop {P : Program} {w : World} {K : PySem.W.Frag} {ι : Pl} {S : Store} {H : Hp} : ∀ (n : Nat) {ds : List D} {xs : List V}, RelL P w K ι S H xs ds → RelL P w K ι S H (xs.drop n) (ds.drop n)
  | 0, _, _, h => h
  | n + 1, [], _, h => by cases h; exact .nil
  | n + 1, _ :: _, _, h => by cases h with | cons _ h2 => exact RelL.drop n h2
theorem RelL.take {P : Program} {w : World} {K : PySem.W.Frag} {ι : Pl} {S : Store} {H : Hp} : ∀ (n : Nat) {ds : List D} {xs : List V}, RelL P w K ι S H xs ds → RelL P w K ι S H (xs.take n) (ds.take n)
  | 0, _, _, _ => by simp; exact .nil
  | n + 1, [], _, h => by cases h; exact .nil
  | n + 1, _ :: _, _, h => by cases h with | cons h1 h2 => exact .cons h1 (RelL.take n h2)
theorem RelL.cut {P : Program} {w : World} {K : PySem.W.Frag} {ι : Pl} {S : Store} {H : Hp} {ds : List D} {xs : List V} (r : RelL P w K ι S H xs ds) (lo hi : Option Int) : RelL P w K ι S H (cutV xs lo hi) (cutD ds lo hi) := by
  unfold cutV cutD
  rw [RelL.length r]
  exact RelL.take _ (RelL.drop _ r)
def sl3 {α : Type} (f : D → Option Int → Option Int → Store → Res α) (m : EM) (l u : OM) : Env → Store → Res α := fun ρ S => (m ρ S).bind fun d S1 => (l ρ S1).bind fun lo S2 => (u ρ S2).bind fun hi S3 => f d lo hi S3
/-- of a list: a new list -/
def cutL (d : D) (lo hi : Option Int) (S : Store) : Res (List D) := match rd d S with
  | some (.lst l) => .ok (cutD l lo hi) S
  | _ => .bad
def cutT (d : D) (lo hi : Option Int) (S : Store) : Res D := match d with
  | .tup l => .ok (.tup (cutD l lo hi)) S
  | _ => .bad
theorem sl_cut {lo hi : Option Expr} {ml mh : OM} {p2 : Pos} (ha : SE X W a ma) (hl : SO X W lo ml) (hh : SO X W hi mh) : SL X W (.Subscript a (.Slice lo hi none p2) pos) (sl3 cutL ma ml mh) := by
  refine PE.use (pe_slice L2.sl_list ha hl hh) fun σ H Q kf q => ?_
  obtain ⟨ι, S, ρ, rs, er, h⟩ := q kf
  refine fun _ => ⟨ι, S, ρ, rs, er, Out.mono (Out.bind h) fun ι1 S1 H1 dx st1 rs1 h1 x rx => ?_⟩
  refine fun _ => ⟨ι1, S1, ρ, rs1, er.mono st1 rs1, Out.mono (Out.bind h1) fun ι2 S2 H2 l st2 rs2 h2 => ?_⟩
  refine fun _ => ⟨ι2, S2, ρ, rs2, (er.mono st1 rs1).mono st2 rs2, Out.mono (Out.bind h2) fun ι3 S3 H3 u st3 rs3 h3 => ?_⟩
  have rx3 := Rel.mono (st2.trans st3) rs3 _ _ rx
  unfold cutL at h3
  cases e1 : rd dx S3 with
  | none => rw [e1] at h3; exact h3.elim
  | some d1 =>
    rw [e1] at h3
    have v1 := vw_of rs3 rx3 e1
    cases d1 with
    | lst l =>
      cases v1 with
      | oth _ no => exact no.elim
      | lst s1 r1 => exact ⟨_, _, rfl, s1, fun p hp kf => Out.now h3 rs3 p _ hp (r1.cut _ _)⟩
    | _ => exact h3.elim
theorem cutV_all {xs : List V} {lo hi : Option Int} (h : HT.sIx xs.length 0 lo = 0 ∧ HT.sIx xs.length xs.length hi = xs.length) : cutV xs lo hi = xs := by
  unfold cutV
  rw [h.1, h.2]
  simp
theorem se_cutT {lo hi : Option Expr} {ml mh : OM} {p2 : Pos} (ha : SE X W a ma) (hl : SO X W lo ml) (hh : SO X W hi mh) : SE X W (.Subscript a (.Slice lo hi none p2) pos) (sl3 cutT ma ml mh) := by
  refine PE.use (pe_slice L2.sl_tupA ha hl hh) fun σ H Q kf q => ?_
  obtain ⟨ι, S, ρ, rs, er, h⟩ := q kf
  refine fun _ => ⟨ι, S, ρ, rs, er, Out.mono (Out.bind h) fun ι1 S1 H1 dx st1 rs1 h1 x rx => ?_⟩
  refine fun _ => ⟨ι1, S1, ρ, rs1, er.mono st1 rs1, Out.mono (Out.bind h1) fun ι2 S2 H2 lv st2 rs2 h2 => ?_⟩
  refine fun _ => ⟨ι2, S2, ρ, rs2, (er.mono st1 rs1).mono st2 rs2, Out.mono (Out.bind h2) fun ι3 S3 H3 u st3 rs3 h3 => ?_⟩
  have rx3 := Rel.mono (st2.trans st3) rs3 _ _ rx
  cases dx with
  | tup l =>
    cases rx3 with
    | tup e1 n1 r1 =>
      refine ⟨_, _, rfl, SqT.of e1, fun hw _ => ?_, fun hw p hp kf => ?_⟩
      · have r2 := r1.cut lv u
        exact Out.now h3 rs3 _ (.tup e1 n1 (by rw [cutV_all hw] at r2; exact r2))
      · obtain ⟨st, rs4, nm⟩ := RS.new rs3 hp kf
        exact h3 ι3 _ st rs4 _ (.tup upd_same nm (RelL.mono st rs4 _ _ (r1.cut _ _)))
  | _ => exact h3.elim
/-! ### builtins of one argument -/
def aOne (m : EM) : AM := aCons m aNil
/-- what a builtin call does by values -/
def BOk (X : Cx) (W : WE) (r : List V → Hp → VK → Prop) (f : List D → Store → Res D) : Prop := ∀ (σ : St) (ι : Pl) (S : Store) (H : Hp) (xs : List V) (ds : List D) (Q : VK), RS X.prog X.w X.K ι S H → RelL X.prog X.w X.K ι S H xs ds →
  Out X.prog X.w X.K W σ ι S H (f ds S) (fun ι' S' H' d => ∀ z, Rel X.prog X.w X.K ι' S' H' z d → Q z H') → r xs H fun z H' => KF X.K H' → Q z H'
def BOkL (X : Cx) (W : WE) (r : List V → Hp → VK → Prop) (f : List D → Store → Res (List D)) : Prop := ∀ (σ : St) (ι : Pl) (S : Store) (H : Hp) (xs : List V) (ds : List D) (Q : VK), RS X.prog X.w X.K ι S H → RelL X.prog X.w X.K ι S H xs ds →
  Out X.prog X.w X.K W σ ι S H (f ds S) (fun ι' S' H' l => ∀ p xs, H' p = none → RelL X.prog X.w X.K ι' S' H' xs l → Q (.ref p) (upd H' p (.lst xs))) → r xs H fun z H' => KF X.K H' → Q z H'
def eBlt (f : List D → Store → Res D) (m : AM) : EM := fun ρ S => (m ρ S).bind f
def lBlt (f : List D → Store → Res (List D)) (m : AM) : AM := fun ρ S => (m ρ S).bind f
variable {es : List Expr} {r : AM} {x : Str} {p : Pos} {id T : String} {R : List V → Hp → VK → Prop} {f : List D → Store → Res D} {fl : List D → Store → Res (List D)}
theorem se_blt (A : Amb X sc ow N k) (hc : CallR X (.builtin id) R) (o : BOk X W R f) (hm : X.mg x = none) (hg : glB sc x = true) (ha : SA X W (e :: es) r) (hv : bootBuiltins x = some (.builtin id) := by decide +kernel) (hn : x ≠ "__name__" := by decide) (hd : (x == ("__debug__" : Str)) = false := by decide)
    (h1 : starEach (e :: es) X.env = (false, eval e X.env) :: starEach es X.env := by rfl) (h2 : (backTo pos (starEach es X.env)).any (·.1) = false := by rfl) : SE X W (.Call (.Name x p) (e :: es) [] pos) (eBlt f r) := by
  refine PE.use (pe_callB hc (gl_of A hg) hm hv ha hn hd h1 h2) fun σ H Q kf q => ?_
  obtain ⟨ι, S, ρ, rs, er, h⟩ := q kf
  exact fun _ => ⟨ι, S, ρ, rs, er, Out.mono (Out.bind h) fun ι1 S1 H1 ds st1 rs1 h1 xs rx => o σ ι1 S1 H1 xs ds Q rs1 rx h1⟩
theorem se_ty (A : Amb X sc ow N k) (hc : CallR X (.type T) R) (o : BOk X W R f) (hm : X.mg x = none) (hg : glB sc x = true) (ha : SA X W (e :: es) r) (hv : bootBuiltins x = some (.type T) := by decide +kernel) (hn : x ≠ "__name__" := by decide) (hd : (x == ("__debug__" : Str)) = false := by decide)
    (h1 : starEach (e :: es) X.env = (false, eval e X.env) :: starEach es X.env := by rfl) (h2 : (backTo pos (starEach es X.env)).any (·.1) = false := by rfl) : SE X W (.Call (.Name x p) (e :: es) [] pos) (eBlt f r) := by
  refine PE.use (pe_callTy hc (gl_of A hg) hm hv ha hn hd h1 h2) fun σ H Q kf q => ?_
  obtain ⟨ι, S, ρ, rs, er, h⟩ := q kf
  exact fun _ => ⟨ι, S, ρ, rs, er, Out.mono (Out.bind h) fun ι1 S1 H1 ds st1 rs1 h1 xs rx => o σ ι1 S1 H1 xs ds Q rs1 rx h1⟩
theorem sl_ty (A : Amb X sc ow N k) (hc : CallR X (.type T) R) (o : BOkL X W R fl) (hm : X.mg x = none) (hg : glB sc x = true) (ha : SA X W (e :: es) r) (hv : bootBuiltins x = some (.type T) := by decide +kernel) (hn : x ≠ "__name__" := by decide) (hd : (x == ("__debug__" : Str)) = false := by decide)
    (h1 : starEach (e :: es) X.env = (false, eval e X.env) :: starEach es X.env := by rfl) (h2 : (backTo pos (starEach es X.env)).any (·.1) = false := by rfl) : SL X W (.Call (.Name x p) (e :: es) [] pos) (lBlt fl r) := by
  refine PE.use (pe_callTy hc (gl_of A hg) hm hv ha hn hd h1 h2) fun σ H Q kf q => ?_
  obtain ⟨ι, S, ρ, rs, er, h⟩ := q kf
  exact fun _ => ⟨ι, S, ρ, rs, er, Out.mono (Out.bind h) fun ι1 S1 H1 ds st1 rs1 h1 xs rx => o σ ι1 S1 H1 xs ds Q rs1 rx h1⟩
theorem sl_blt (A : Amb X sc ow N k) (hc : CallR X (.builtin id) R) (o : BOkL X W R fl) (hm : X.mg x = none) (hg : glB sc x = true) (ha : SA X W (e :: es) r) (hv : bootBuiltins x = some (.builtin id) := by decide +kernel) (hn : x ≠ "__name__" := by decide) (hd : (x == ("__debug__" : Str)) = false := by decide)
    (h1 : starEach (e :: es) X.env = (false, eval e X.env) :: starEach es X.env := by rfl) (h2 : (backTo pos (starEach es X.env)).any (·.1) = false := by rfl) : SL X W (.Call (.Name x p) (e :: es) [] pos) (lBlt fl r) := by
  refine PE.use (pe_callB hc (gl_of A hg) hm hv ha hn hd h1 h2) fun σ H Q kf q => ?_
  obtain ⟨ι, S, ρ, rs, er, h⟩ := q kf
  exact fun _ => ⟨ι, S, ρ, rs, er, Out.mono (Out.bind h) fun ι1 S1 H1 ds st1 rs1 h1 xs rx => o σ ι1 S1 H1 xs ds Q rs1 rx h1⟩
/-- builtins of lists, tuples, dicts -/
def lenD (ds : List D) (S : Store) : Res D := match ds with
  | [d] => (match rd d S with
    | some (.lst l) => .ok (.int (l.length : Nat)) S
    | some (.tup l) => .ok (.int (l.length : Nat)) S
    | some (.dct false ks vs) => .ok (.int (vs.length : Nat)) S
    | _ => .bad)
  | _ => .bad
theorem call_lenRd : CallR X (.builtin "len") (fun xs H Q => ∃ a kvs, xs = [V.ref a] ∧ Rd H a (.dK kvs) ∧ Q (.int (List.length (α := Key × V) kvs)) H) := by
  intro pins s σ H xs us Q I rr h
  obtain ⟨a, kvs, rfl, e, q⟩ := h
  obtain ⟨u, rfl, rx⟩ := vals1 rr
  cases (show u = Value.ref a from rx)
  exact d_len I e fun t s2 I2 => ⟨.int kvs.length, H, I2, ⟨_, rfl⟩, q⟩
theorem call_lenQ : CallR X (.builtin "len") (fun xs H Q => (∃ x n, xs = [x] ∧ LenV X.K x H n ∧ Q (.int n) H) ∨ ∃ a kvs, xs = [V.ref a] ∧ Rd H a (.dK kvs) ∧ Q (.int kvs.length) H) := call_len.or call_lenRd
theorem ok_len : BOk X W (fun xs H Q => (∃ x n, xs = [x] ∧ LenV X.K x H n ∧ Q (.int n) H) ∨ ∃ a kvs, xs = [V.ref a] ∧ Rd H a (.dK kvs) ∧ Q (.int kvs.length) H) lenD := by
  intro σ ι S H xs ds Q rs rx h
  match ds, rx, h with
  | [d], .cons r1 .nil, h =>
    unfold lenD at h
    dsimp only at h
    cases e1 : rd d S with
    | none => rw [e1] at h; exact h.elim
    | some d1 =>
      rw [e1] at h
      have v1 := vw_of rs r1 e1
      cases d1 with
      | lst l =>
        cases v1 with
        | oth _ no => exact no.elim
        | lst s1 r1 => exact .inl ⟨_, l.length, rfl, .inl ⟨_, s1, (RelL.length r1).symm⟩, fun _ => Out.now h rs _ (.int _)⟩
      | tup l =>
        cases v1 with
        | oth r no =>
          cases r with
          | tup e1 n1 r1 => exact .inl ⟨_, l.length, rfl, .inr ⟨_, SqT.of e1, (RelL.length r1).symm⟩, fun _ => Out.now h rs _ (.int _)⟩
      | dct b ks vs =>
        cases b with
        | true => exact h.elim
        | false =>
          cases v1 with
          | oth _ no => exact no.elim
          | dctK e nd r1 =>
            have hl := RelL.length r1
            rw [List.length_map] at hl
            refine .inr ⟨_, _, rfl, e, fun _ => ?_⟩
            rw [hl]
            exact Out.now h rs _ (.int _)
      | _ => exact h.elim
theorem se_len (A : Amb X sc ow N k) (hm : X.mg "len" = none) (hg : glB sc "len" = true) (ha : SE X W e ma) (hs : starEach [e] X.env = [(false, eval e X.env)] := by rfl) : SE X W (.Call (.Name "len" p) [e] [] pos) (eBlt lenD (aOne ma)) :=
  se_blt A call_lenQ ok_len hm hg (sa_cons ha sa_nil hs) (hv := PySem.boot_len) (h1 := hs) (h2 := rfl)
/-- int(x) -/
def intD (ds : List D) (S : Store) : Res D := match ds with
  | [.int i] => .ok (.int i) S
  | [.bl b] => .ok (.int (if b then 1 else 0)) S
  | _ => .bad
theorem ok_int1 : BOk X W (fun xs H Q => (∃ i, xs = [.int i] ∧ Q (.int i) H) ∨ ∃ k, xs = [.bl k] ∧ Q (.int (if k then 1 else 0)) H) intD := by
  intro σ ι S H xs ds Q rs rx h
  match ds, rx, h with
  | [.int i], .cons (.int _) .nil, h => exact .inl ⟨i, rfl, fun _ => Out.now h rs _ (.int _)⟩
  | [.bl i], .cons (.bl _) .nil, h => exact .inr ⟨i, rfl, fun _ => Out.now h rs _ (.int _)⟩
theorem se_int1 (A : Amb X sc ow N k) (hm : X.mg "int" = none) (hg : glB sc "int" = true) (ha : SE X W e ma) (hs : starEach [e] X.env = [(false, eval e X.env)] := by rfl) : SE X W (.Call (.Name "int" p) [e] [] pos) (eBlt intD (aOne ma)) :=
  se_ty A call_int1 ok_int1 hm hg (sa_cons ha sa_nil hs) (hv := by decide +kernel) (h1 := hs) (h2 := rfl)
/-- tuple(x) of a list or a tuple -/
def tupD (ds : List D) (S : Store) : Res D := match ds with
  | [d] => (match rd d S with
    | some (.lst l) => .ok (.tup l) S
    | some (.tup l) => .ok (.tup l) S
    | _ => .bad)
  | _ => .bad
theorem ok_tup : BOk X W (fun xs H Q => ∃ p ys, xs = [.ref p] ∧ ((SqL X.K H p ys ∧ ∀ l, H l = none → Q (.ref l) (upd H l (.tup ys))) ∨ (SqT X.K H p ys ∧ Q (.ref p) H))) tupD := by
  intro σ ι S H xs ds Q rs rx h
  match ds, rx, h with
  | [d], .cons r1 .nil, h =>
    unfold tupD at h
    dsimp only at h
    cases e1 : rd d S with
    | none => rw [e1] at h; exact h.elim
    | some d1 =>
      rw [e1] at h
      have v1 := vw_of rs r1 e1
      cases d1 with
      | lst l =>
        cases v1 with
        | oth _ no => exact no.elim
        | lst s1 r1 =>
          refine ⟨_, _, rfl, .inl ⟨s1, fun p hp kf => ?_⟩⟩
          obtain ⟨st, rs2, nm⟩ := RS.new rs hp kf
          exact h ι _ st rs2 _ (.tup upd_same nm (RelL.mono st rs2 _ _ r1))
      | tup l =>
        cases v1 with
        | oth r no =>
          cases r with
          | tup e1 n1 r1 => exact ⟨_, _, rfl, .inr ⟨SqT.of e1, fun _ => Out.now h rs _ (.tup e1 n1 r1)⟩⟩
      | _ => exact h.elim
theorem se_tuple (A : Amb X sc ow N k) (hm : X.mg "tuple" = none) (hg : glB sc "tuple" = true) (ha : SE X W e ma) (hs : starEach [e] X.env = [(false, eval e X.env)] := by rfl) : SE X W (.Call (.Name "tuple" p) [e] [] pos) (eBlt tupD (aOne ma)) :=
  se_ty A call_tuple_of ok_tup hm hg (sa_cons ha sa_nil hs) (hv := by decide +kernel) (h1 := hs) (h2 := rfl)
/-- list(x) of a list or a tuple -/
def lstD (ds : List D) (S : Store) : Res (List D) := match ds with
  | [d] => (match rd d S with
    | some (.lst l) => .ok l S
    | some (.tup l) => .ok l S
    | _ => .bad)
  | _ => .bad
theorem ok_lst : BOkL X W (fun xs H Q => ∃ p ys, xs = [.ref p] ∧ (SqL X.K H p ys ∨ SqT X.K H p ys) ∧ ∀ l, H l = none → Q (.ref l) (upd H l (.lst ys))) lstD := by
  intro σ ι S H xs ds Q rs rx h
  match ds, rx, h with
  | [d], .cons r1 .nil, h =>
    unfold lstD at h
    dsimp only at h
    cases e1 : rd d S with
    | none => rw [e1] at h; exact h.elim
    | some d1 =>
      rw [e1] at h
      have v1 := vw_of rs r1 e1
      cases d1 with
      | lst l =>
        cases v1 with
        | oth _ no => exact no.elim
        | lst s1 r1 => exact ⟨_, _, rfl, .inl s1, fun p hp kf => Out.now h rs p _ hp r1⟩
      | tup l =>
        cases v1 with
        | oth r no =>
          cases r with
          | tup e1 n1 r1 => exact ⟨_, _, rfl, .inr (SqT.of e1), fun p hp kf => Out.now h rs p _ hp r1⟩
      | _ => exact h.elim
theorem sl_list1 (A : Amb X sc ow N k) (hm : X.mg "list" = none) (hg : glB sc "list" = true) (ha : SE X W e ma) (hs : starEach [e] X.env = [(false, eval e X.env)] := by rfl) : SL X W (.Call (.Name "list" p) [e] [] pos) (lBlt lstD (aOne ma)) :=
  sl_ty A call_list_of ok_lst hm hg (sa_cons ha sa_nil hs) (hv := by decide +kernel) (h1 := hs) (h2 := rfl)
/-- min, max of two ints -/
def min2 (ds : List D) (S : Store) : Res D := match ds with
  | [.int i, .int j] => .ok (.int (if j < i then j else i)) S
  | _ => .bad
def max2 (ds : List D) (S : Store) : Res D := match ds with
  | [.int i, .int j] => .ok (.int (if j > i then j else i)) S
  | _ => .bad
theorem ok_min2 : BOk X W (fun xs H Q => ∃ i j, xs = [.int i, .int j] ∧ Q (.int (if j < i then j else i)) H) min2 := by
  intro σ ι S H xs ds Q rs rx h
  match ds, rx, h with
  | [.int i, .int j], .cons (.int _) (.cons (.int _) .nil), h => exact ⟨i, j, rfl, fun _ => Out.now h rs _ (.int _)⟩
theorem ok_max2 : BOk X W (fun xs H Q => ∃ i j, xs = [.int i, .int j] ∧ Q (.int (if j > i then j else i)) H) max2 := by
  intro σ ι S H xs ds Q rs rx h
  match ds, rx, h with
  | [.int i, .int j], .cons (.int _) (.cons (.int _) .nil), h => exact ⟨i, j, rfl, fun _ => Out.now h rs _ (.int _)⟩
theorem se_min2 (A : Amb X sc ow N k) (hm : X.mg "min" = none) (hg : glB sc "min" = true) (ha : SA X W [a, b] r) (hs : starEach [a, b] X.env = [(false, eval a X.env), (false, eval b X.env)] := by rfl) (hs2 : starEach [b] X.env = [(false, eval b X.env)] := by rfl) : SE X W (.Call (.Name "min" p) [a, b] [] pos) (eBlt min2 r) :=
  se_blt A (call_min2 A.calm) ok_min2 hm hg ha (hv := by decide +kernel) (h1 := by rw [hs, hs2]) (h2 := by rw [hs2]; rfl)
theorem se_max2 (A : Amb X sc ow N k) (hm : X.mg "max" = none) (hg : glB sc "max" = true) (ha : SA X W [a, b] r) (hs : starEach [a, b] X.env = [(false, eval a X.env), (false, eval b X.env)] := by rfl) (hs2 : starEach [b] X.env = [(false, eval b X.env)] := by rfl) : SE X W (.Call (.Name "max" p) [a, b] [] pos) (eBlt max2 r) :=
  se_blt A (call_max2 A.calm) ok_max2 hm hg ha (hv := by decide +kernel) (h1 := by rw [hs, hs2]) (h2 := by rw [hs2]; rfl)
/-- ranges as values -/
def rng2 (ds : List D) (S : Store) : Res D := match ds with
  | [.int i] => .ok (.rng 0 i) S
  | [.int i, .int j] => .ok (.rng i j) S
  | _ => .bad
theorem cr_range1 : CallR X (.type "range") (fun vs H Q => ∃ i, vs = [V.int i] ∧ ∀ p, H p = none → Q (.ref p) (upd H p (.rng 0 i))) := by
  intro pins s σ H vs us Q I rr h
  obtain ⟨i, rfl, q⟩ := h
  obtain ⟨u, rfl, t, rfl⟩ := vals1 rr
  refine call_range_1 ⟨.ref s.heap.objs.size, upd H s.heap.objs.size (.rng 0 i), I.laid (t' := s.toks + 1 + 1) (fun b o z => Heap.get?_push_of_some _ z) (Nat.le_refl _) ?_, rfl, q _ (I.hok.fresh (Nat.le_refl _))⟩
  exact ⟨s.toks, t, s.toks + 1, Heap.get?_push_size _ rfl⟩
theorem ok_rng : BOk X W (fun vs H Q => (∃ i, vs = [V.int i] ∧ ∀ p, H p = none → Q (.ref p) (upd H p (.rng 0 i))) ∨ ∃ i j, vs = [V.int i, V.int j] ∧ ∀ p, H p = none → Q (.ref p) (upd H p (.rng i j))) rng2 := by
  intro σ ι S H xs ds Q rs rx h
  match ds, rx, h with
  | [.int i], .cons (.int _) .nil, h =>
    refine .inl ⟨i, rfl, fun p hp kf => ?_⟩
    obtain ⟨st, rs2, nm⟩ := RS.new rs hp kf
    exact h ι _ st rs2 _ (.rng upd_same nm)
  | [.int i, .int j], .cons (.int _) (.cons (.int _) .nil), h =>
    refine .inr ⟨i, j, rfl, fun p hp kf => ?_⟩
    obtain ⟨st, rs2, nm⟩ := RS.new rs hp kf
    exact h ι _ st rs2 _ (.rng upd_same nm)
theorem se_range1 (A : Amb X sc ow N k) (hm : X.mg "range" = none) (hg : glB sc "range" = true) (ha : SE X W e ma) (hs : starEach [e] X.env = [(false, eval e X.env)] := by rfl) : SE X W (.Call (.Name "range" p) [e] [] pos) (eBlt rng2 (aOne ma)) :=
  se_ty A (cr_range1.or cr_range2) ok_rng hm hg (sa_cons ha sa_nil hs) (hv := by decide +kernel) (h1 := hs) (h2 := rfl)
theorem se_range2 (A : Amb X sc ow N k) (hm : X.mg "range" = none) (hg : glB sc "range" = true) (ha : SA X W [a, b] r) (hs : starEach [a, b] X.env = [(false, eval a X.env), (false, eval b X.env)] := by rfl) (hs2 : starEach [b] X.env = [(false, eval b X.env)] := by rfl) : SE X W (.Call (.Name "range" p) [a, b] [] pos) (eBlt rng2 r) :=
  se_ty A (cr_range1.or cr_range2) ok_rng hm hg ha (hv := by decide +kernel) (h1 := by rw [hs, hs2]) (h2 := by rw [hs2]; rfl)
end
end Mi
set_option linter.all false
set_option maxRecDepth 100000
/-! Mi, part M: sorted, repr, methods of lists. -/
namespace Mi
open PySem L2
section
variable {X : Cx} {W : WE} {sc : Scope} {ow : List (Str × NameKind)} {N : List Str} {k : Nat}
variable {a b e : Expr} {ma mb : EM} {pos p : Pos} {es : List Expr} {r : AM}
/-! ### list, tuple of a range -/
theorem rg_rel {P : Program} {w : World} {K : PySem.W.Frag} {ι : Pl} {S : Store} {H : Hp} : ∀ (n : Nat) (lo : Int), RelL P w K ι S H ((List.range n).map fun i => V.int (lo + (i : Nat))) (intsD lo n)
  | 0, _ => .nil
  | n + 1, lo => by
    rw [List.range_succ_eq_map, List.map_cons, List.map_map]
    have e : ((fun i : Nat => V.int (lo + (i : Nat))) ∘ Nat.succ) = fun i : Nat => V.int (lo + 1 + (i : Nat)) := by
      funext i
      show V.int (lo + ((i + 1 : Nat) : Int)) = _
      congr 1
      omega
    rw [e]
    have h0 : V.int (lo + ((0 : Nat) : Int)) = .int lo := by congr 1; omega
    rw [h0]
    exact .cons (.int lo) (rg_rel n (lo + 1))
def rListR : List V → Hp → VK → Prop := fun xs H Q => ∃ a lo hi, xs = [V.ref a] ∧ H a = some (.rng lo hi) ∧ RgOk lo hi ∧ ∀ p, H p = none → Q (.ref p) (upd H p (.lst (rgV lo hi)))
theorem call_list_rng (hc : X.calm = true) : CallR X (.type "list") rListR := by
  intro pins s σ H xs us Q I rr h
  obtain ⟨a, lo, hi, rfl, hH, ⟨b1, b2, b3, b4, b5⟩, q⟩ := h
  obtain ⟨u, rfl, rx⟩ := vals1 rr
  cases (show u = Value.ref a from rx)
  obtain ⟨t, t2, t3, ho⟩ := I.hok a _ hH
  refine PySem.call_list_range (n := (hi - lo).toNat) (I.ok.hd hc) ho (small_one b1 b2 b3 b4) (PyProof.Rows.rangeSize_nat lo hi) b5 fun h2 tk acc c2 keep at2 its => ?_
  have new : ObjOk X.prog X.w (upd H s.heap.objs.size (.lst (rgV lo hi))) h2 s.heap.objs.size (.lst (rgV lo hi)) := by
    refine ⟨by rw [rgV_length, sizeLine_eq]; omega, acc.toList, c2, vals_rg its, ?_⟩
    rw [Array.toArray_toList]
    exact at2
  exact ⟨.ref _, _, I.laid keep (Nat.le_refl _) new, rfl, q _ (I.hok.fresh (Nat.le_refl _))⟩
def rTupR : List V → Hp → VK → Prop := fun xs H Q => ∃ a lo hi, xs = [V.ref a] ∧ H a = some (.rng lo hi) ∧ RgOk lo hi ∧ ∀ p, H p = none → Q (.ref p) (upd H p (.tup (rgV lo hi)))
theorem call_tup_rng (hc : X.calm = true) : CallR X (.type "tuple") rTupR := by
  intro pins s σ H xs us Q I rr h
  obtain ⟨a, lo, hi, rfl, hH, ⟨b1, b2, b3, b4, b5⟩, q⟩ := h
  obtain ⟨u, rfl, rx⟩ := vals1 rr
  cases (show u = Value.ref a from rx)
  obtain ⟨t, t2, t3, ho⟩ := I.hok a _ hH
  refine call_tuple_range (n := (hi - lo).toNat) (I.ok.hd hc) ho (small_one b1 b2 b3 b4) (PyProof.Rows.rangeSize_nat lo hi) b5 fun h2 tk acc keep its => ?_
  have I2 : Inv X pins σ H { s with heap := h2, toks := tk } := I.kept keep
  have new : ObjOk X.prog X.w (upd H h2.objs.size (.tup (rgV lo hi))) (h2.push { cls := .type "tuple", data := .seq acc }) h2.objs.size (.tup (rgV lo hi)) := by
    refine ⟨by rw [rgV_length, sizeLine_eq]; omega, acc.toList, vals_rg its, ?_⟩
    rw [Array.toArray_toList]
    exact PyProof.Rows.IsTup.new _ _
  exact ⟨.ref h2.objs.size, _, I2.laid (t' := tk) (fun c o z => Heap.get?_push_of_some _ z) (Nat.le_refl _) new, rfl, q _ (I2.hok.fresh (Nat.le_refl _))⟩
def rgB (lo hi : Int) : Bool := rngB lo hi && decide ((hi - lo).toNat ≤ 16777216)
theorem rgB_ok {lo hi : Int} (h : rgB lo hi = true) : RgOk lo hi := by
  unfold rgB at h
  rw [Bool.and_eq_true, decide_eq_true_eq] at h
  obtain ⟨h1, h2, h3, h4⟩ := rngB_of h.1
  exact ⟨h1, h2, h3, h4, h.2⟩
def lstR (ds : List D) (S : Store) : Res (List D) := match ds with
  | [.rng lo hi] => if rgB lo hi = true then .ok (intsD lo (hi - lo).toNat) S else .bad
  | _ => .bad
def tupR (ds : List D) (S : Store) : Res D := match ds with
  | [.rng lo hi] => if rgB lo hi = true then .ok (.tup (intsD lo (hi - lo).toNat)) S else .bad
  | _ => .bad
theorem ok_lstR : BOkL X W rListR lstR := by
  intro σ ι S H xs ds Q rs rx h
  match ds, rx, h with
  | [.rng lo hi], .cons (.rng e nm) .nil, h =>
    unfold lstR at h
    dsimp only at h
    by_cases z : rgB lo hi = true
    · rw [if_pos z] at h
      exact ⟨_, lo, hi, rfl, e, rgB_ok z, fun p hp kf => Out.now h rs p _ hp (rg_rel _ _)⟩
    · rw [if_neg z] at h; exact h.elim
theorem ok_tupR : BOk X W rTupR tupR := by
  intro σ ι S H xs ds Q rs rx h
  match ds, rx, h with
  | [.rng lo hi], .cons (.rng e nm) .nil, h =>
    unfold tupR at h
    dsimp only at h
    by_cases z : rgB lo hi = true
    · rw [if_pos z] at h
      refine ⟨_, lo, hi, rfl, e, rgB_ok z, fun p hp kf => ?_⟩
      obtain ⟨st, rs2, nm2⟩ := RS.new rs hp kf
      exact h ι _ st rs2 _ (.tup upd_same nm2 (rg_rel _ _))
    · rw [if_neg z] at h; exact h.elim
theorem sl_listR (A : Amb X sc ow N k) (hm : X.mg "list" = none) (hg : glB sc "list" = true) (ha : SE X W e ma) (hs : starEach [e] X.env = [(false, eval e X.env)] := by rfl) : SL X W (.Call (.Name "list" p) [e] [] pos) (lBlt lstR (aOne ma)) :=
  sl_ty A (call_list_rng A.calm) ok_lstR hm hg (sa_cons ha sa_nil hs) (hv := by decide +kernel) (h1 := hs) (h2 := rfl)
theorem se_tupleR (A : Amb X sc ow N k) (hm : X.mg "tuple" = none) (hg : glB sc "tuple" = true) (ha : SE X W e ma) (hs : starEach [e] X.env = [(false, eval e X.env)] := by rfl) : SE X W (.Call (.Name "tuple" p) [e] [] pos) (eBlt tupR (aOne ma)) :=
  se_ty A (call_tup_rng A.calm) ok_tupR hm hg (sa_cons ha sa_nil hs) (hv := by decide +kernel) (h1 := hs) (h2 := rfl)
/-! ### sorted(xs), xs a list -/
def alikeB (ds : List D) : Bool := ds.all fun d => ds.all fun e => PySem.W.alike d.py e.py
def D.row : D → Bool
  | .tup (_ :: _) => true
  | _ => false
def D.atom : D → Bool
  | .tup _ => false
  | .non => false
  | _ => true
def sortB (ds : List D) : Bool := D.flatAll 60 ds && alikeB ds && (ds.all D.row || ds.all D.atom)
def leS : D → D → Bool := PySem.W.dataLe false D.py
/-- sorted, by putting one after another in -/
def inS (x : D) : List D → List D
  | [] => [x]
  | y :: t => if leS x y = true then x :: y :: t else y :: inS x t
def isrt : List D → List D
  | [] => []
  | x :: t => inS x (isrt t)
theorem leS_trans (x y z : D) (h1 : leS x y = true) (h2 : leS y z = true) : leS x z = true := by
  have e : ∀ a b : D, leS a b = !PySem.W.dataLt b.py a.py := fun _ _ => rfl
  rw [e] at *
  rw [Bool.not_eq_true'] at *
  unfold PySem.W.dataLt at *
  cases h : PyProof.Rows.lexLt PyProof.Rows.itemOrd (PySem.W.keyToks z.py) (PySem.W.keyToks x.py) with
  | false => rfl
  | true =>
    rcases PyProof.Rows.lex_negTrans _ (PySem.W.keyToks y.py) _ h with a | a
    · rw [a] at h2; cases h2
    · rw [a] at h1; cases h1
theorem leS_total (x y : D) : (leS x y || leS y x) = true := by
  have e : ∀ a b : D, leS a b = !PySem.W.dataLt b.py a.py := fun _ _ => rfl
  rw [e, e]
  unfold PySem.W.dataLt
  cases h : PyProof.Rows.lexLt PyProof.Rows.itemOrd (PySem.W.keyToks y.py) (PySem.W.keyToks x.py) with
  | false => rfl
  | true =>
    cases h2 : PyProof.Rows.lexLt PyProof.Rows.itemOrd (PySem.W.keyToks x.py) (PySem.W.keyToks y.py) with
    | false => rfl
    | true =>
      have := PyProof.Rows.lex_trans _ _ _ h h2
      rw [PyProof.Rows.lex_irrefl] at this
      cases this
theorem inS_mem {x z : D} : ∀ {l : List D}, z ∈ inS x l → z = x ∨ z ∈ l
  | [], h => .inl (by simpa [inS] using h)
  | y :: t, h => by
    unfold inS at h
    split at h
    · simpa using h
    · rcases List.mem_cons.mp h with h | h
      · exact .inr (by simp [h])
      · rcases inS_mem h with h | h
        · exact .inl h
        · exact .inr (by simp [h])
theorem inS_ord {x : D} : ∀ {l : List D}, l.Pairwise (fun a b => leS a b = true) → (inS x l).Pairwise (fun a b => leS a b = true)
  | [], _ => by simp [inS]
  | y :: t, h => by
    obtain ⟨h1, h2⟩ := List.pairwise_cons.mp h
    unfold inS
    split
    · rename_i e
      refine List.pairwise_cons.mpr ⟨fun z hz => ?_, h⟩
      rcases List.mem_cons.mp hz with rfl | hz
      · exact e
      · exact leS_trans _ _ _ e (h1 z hz)
    · rename_i e
      have e2 : leS y x = true := by
        have := leS_total x y
        rw [Bool.or_eq_true] at this
        exact this.resolve_left e
      refine List.pairwise_cons.mpr ⟨fun z hz => ?_, inS_ord h2⟩
      rcases inS_mem hz with rfl | hz
      · exact e2
      · exact h1 z hz
theorem inS_cls {x z : D} : ∀ {l : List D}, (inS x l).filter (PySem.W.Srt.alike leS z) = (x :: l).filter (PySem.W.Srt.alike leS z)
  | [] => rfl
  | y :: t => by
    unfold inS
    split
    · rfl
    · rename_i e
      have ih := inS_cls (x := x) (z := z) (l := t)
      rw [List.filter_cons, ih]
      by_cases hy : PySem.W.Srt.alike leS z y = true
      · have hx : ¬ PySem.W.Srt.alike leS z x = true := fun hx => by
          unfold PySem.W.Srt.alike at hx hy
          rw [Bool.and_eq_true] at hx hy
          exact e (leS_trans _ _ _ hx.2 hy.1)
        rw [if_pos hy, List.filter_cons_of_neg hx, List.filter_cons_of_neg hx, List.filter_cons_of_pos hy]
      · rw [if_neg hy]
        by_cases hx : PySem.W.Srt.alike leS z x = true
        · rw [List.filter_cons_of_pos hx, List.filter_cons_of_pos hx, List.filter_cons_of_neg hy]
        · rw [List.filter_cons_of_neg hx, List.filter_cons_of_neg hx, List.filter_cons_of_neg hy]
theorem isrt_ord : ∀ l : List D, (isrt l).Pairwise (fun a b => leS a b = true)
  | [] => .nil
  | x :: t => inS_ord (isrt_ord t)
theorem isrt_cls (z : D) : ∀ l : List D, (isrt l).filter (PySem.W.Srt.alike leS z) = l.filter (PySem.W.Srt.alike leS z)
  | [] => rfl
  | x :: t => by
    have ih := isrt_cls z t
    unfold isrt
    rw [inS_cls, List.filter_cons, List.filter_cons, ih]
theorem isrt_eq (l : List D) : isrt l = l.mergeSort leS := PySem.W.Srt.the leS leS_trans leS_total (isrt_ord l) fun z => isrt_cls z l
def sortF (ds : List D) (S : Store) : Res (List D) := match ds with
  | [d] => (match rd d S with
    | some (.lst l) => if sortB l = true then .ok (isrt l) S else .bad
    | _ => .bad)
  | _ => .bad
def rSortQ (X : Cx) : List V → Hp → VK → Prop := fun xs H Q => ∃ a ys ι S ds, xs = [V.ref a] ∧ SqL X.K H a ys ∧ RelL X.prog X.w X.K ι S H ys ds ∧ sortB ds = true ∧ ∀ p zs, H p = none → RelL X.prog X.w X.K ι S H zs (ds.mergeSort leS) → Q (.ref p) (upd H p (.lst zs))
theorem flatAll_mem : ∀ {n : Nat} {ds : List D}, D.flatAll n ds = true → ∀ d ∈ ds, D.flat n d = true
  | n, d :: ds, h, x, hx => by
    simp only [D.flatAll, Bool.and_eq_true] at h
    rcases List.mem_cons.mp hx with rfl | hx
    · exact h.1
    · exact flatAll_mem h.2 x hx
theorem rel_vw {P : Program} {w : World} {K : PySem.W.Frag} {ι : Pl} {S : Store} {H : Hp} {v : V} {d : D} {n : Nat} (r1 : Rel P w K ι S H v d) (hf : D.flat n d = true) : Vw P w K ι S H v d := by
  cases r1 with
  | lst e _ rl => exact .lst e rl
  | dctK e _ nd rl => exact .dctK (.inr ⟨_, e⟩) nd rl
  | dctN e _ nd q r1 r2 => exact .dctN (.inr ⟨_, e⟩) nd q r1 r2
  | loc e => simp [D.flat] at hf
  | non => exact .oth .non trivial
  | bl b => exact .oth (.bl b) trivial
  | int b => exact .oth (.int b) trivial
  | str b => exact .oth (.str b) trivial
  | tup e n r => exact .oth (.tup e n r) trivial
  | rng e n => exact .oth (.rng e n) trivial
theorem each_of {pins : List (Addr × Obj)} {σ : L2.St} {H : Hp} {s : Shared} {ι : Pl} {S : Store} (I : Inv X pins σ H s) : ∀ {ds : List D} {ys : List V} {its : List Value}, D.flatAll 60 ds = true → Vals ys its → RelL X.prog X.w X.K ι S H ys ds →
    PySem.W.EachIs (fun v d => ∃ x, RelV x v ∧ Rel X.prog X.w X.K ι S H x d) its ds ∧ PySem.W.EachIs (fun v d => ∃ as, Reads s.heap v (D.py d) as) its ds
  | [], _, _, _, hv, r => by
    cases r
    cases hv
    exact ⟨.nil, .nil⟩
  | d :: ds, _, _, hf, hv, r => by
    cases r with
    | cons r1 r2 =>
      cases hv with
      | cons v1 v2 =>
        simp only [D.flatAll, Bool.and_eq_true] at hf
        obtain ⟨h1, h2⟩ := each_of I hf.2 v2 r2
        obtain ⟨dp, _, _⟩ := (flat_main (sizeOf d)).1 60 d _ (Nat.le_refl _) hf.1 (rel_vw r1 hf.1)
        obtain ⟨as, rd1⟩ := Dp.reads I d.py _ _ dp v1
        exact ⟨.cons ⟨_, v1, r1⟩ h1, .cons ⟨as, rd1⟩ h2⟩
theorem back_of_each {P : Program} {w : World} {K : PySem.W.Frag} {ι : Pl} {S : Store} {H : Hp} : ∀ {out : List Value} {ds : List D}, PySem.W.EachIs (fun v d => ∃ x, RelV x v ∧ Rel P w K ι S H x d) out ds → ∃ zs, Vals zs out ∧ RelL P w K ι S H zs ds
  | _, _, .nil => ⟨[], .nil, .nil⟩
  | _, _, .cons ⟨x, h1, h2⟩ t => by
    obtain ⟨zs, g1, g2⟩ := back_of_each t
    exact ⟨x :: zs, .cons h1 g1, .cons h2 g2⟩
theorem call_sortQ (hu : X.A.units + 65 < cLine) : CallR X (.builtin "sorted") (rSortQ X) := by
  intro pins s σ H xs us Q I rr h
  obtain ⟨a, ys, ι, S, ds, rfl, hs, rl, hb, q⟩ := h
  obtain ⟨u, rfl, rx⟩ := vals1 rr
  cases (show u = Value.ref a from rx)
  obtain ⟨its, rv, pl, hz⟩ := I.list hs
  unfold sortB at hb
  simp only [Bool.and_eq_true, Bool.or_eq_true] at hb
  obtain ⟨⟨hf, hal⟩, hso⟩ := hb
  obtain ⟨e1, e2⟩ := each_of I hf rv rl
  have hlen : ds.length = ys.length := (RelL.length rl).symm
  refine PySem.W.sorted_data pl.isList e1 e2 ?_ ?_ (by rw [hlen]; exact hz) ?_ fun out ho eo => ?_
  · intro d hd d' hd'
    obtain ⟨x, hx, rfl⟩ := List.mem_map.mp hd
    obtain ⟨x', hx', rfl⟩ := List.mem_map.mp hd'
    unfold alikeB at hal
    exact List.all_eq_true.mp (List.all_eq_true.mp hal x hx) x' hx'
  · rcases hso with hso | hso
    · refine .inl fun d hd => ?_
      obtain ⟨x, hx, rfl⟩ := List.mem_map.mp hd
      have := List.all_eq_true.mp hso x hx
      cases x with
      | tup l => cases l with
        | nil => cases this
        | cons y l => exact ⟨y.py, D.pyAll l, by simp [D.py, D.pyAll]⟩
      | _ => cases this
    · refine .inr fun d hd => ?_
      obtain ⟨x, hx, rfl⟩ := List.mem_map.mp hd
      have h1 := List.all_eq_true.mp hso x hx
      have h2 := flatAll_mem hf x hx
      cases x with
      | tup l => cases h1
      | non => cases h1
      | dct _ _ _ => simp [D.flat] at h2
      | loc _ => simp [D.flat] at h2
      | rng _ _ => simp [D.flat] at h2
      | clo _ _ => simp [D.flat] at h2
      | _ => exact ⟨by simp [D.py], by simp [D.py]⟩
  · intro d hd
    have h2 := flatAll_mem hf d hd
    obtain ⟨v, hv⟩ := List.mem_iff_getElem?.mp hd
    obtain ⟨x, _, rx2⟩ := rl.get hv
    obtain ⟨_, _, h3⟩ := (flat_main (sizeOf d)).1 60 d x (Nat.le_refl _) h2 (rel_vw rx2 h2)
    omega
  · obtain ⟨zs, g1, g2⟩ := back_of_each eo
    obtain ⟨c, at2⟩ := PyProof.Rows.sortedAll_at s.heap its out.toArray
    have new : ObjOk X.prog X.w (upd H (s.heap.objs.size + 1) (.lst zs)) (PyProof.Rows.sortedAll s.heap its out.toArray) (s.heap.objs.size + 1) (.lst zs) := by
      refine ⟨?_, out, c, g1, at2⟩
      rw [g1.length, ho, hlen]
      exact hz
    exact ⟨.ref _, _, I.laid (t' := s.toks) (fun b o z => PyProof.Rows.sortedAll_old z) (Nat.le_succ _) new, rfl, q _ zs (I.hok.fresh (Nat.le_succ _)) g2⟩
theorem ok_sort : BOkL X W (rSortQ X) sortF := by
  intro σ ι S H xs ds Q rs rx h
  match ds, rx, h with
  | [d], .cons r1 .nil, h =>
    unfold sortF at h
    dsimp only at h
    cases e1 : rd d S with
    | none => rw [e1] at h; exact h.elim
    | some d1 =>
      rw [e1] at h
      have v1 := vw_of rs r1 e1
      cases d1 with
      | lst l =>
        dsimp only at h
        by_cases z : sortB l = true
        · rw [if_pos z] at h
          cases v1 with
          | oth _ no => exact no.elim
          | lst s1 r1 => exact ⟨_, _, ι, S, l, rfl, s1, r1, z, fun p zs hp rz kf => Out.now h rs p zs hp (by rw [isrt_eq]; exact rz)⟩
        · rw [if_neg z] at h; exact h.elim
      | _ => exact h.elim
theorem sl_sorted (A : Amb X sc ow N k) (hm : X.mg "sorted" = none) (hg : glB sc "sorted" = true) (ha : SE X W e ma) (hs : starEach [e] X.env = [(false, eval e X.env)] := by rfl) : SL X W (.Call (.Name "sorted" p) [e] [] pos) (lBlt sortF (aOne ma)) :=
  sl_blt A (call_sortQ A.units) ok_sort hm hg (sa_cons ha sa_nil hs) (hv := by decide +kernel) (h1 := hs) (h2 := rfl)
/-! ### repr -/
def reprD (ds : List D) (S : Store) : Res D := match ds with
  | [d] => (match rd d S with
    | some d => if (D.flat 60 d && d.py.showable && decide (d.py.shown.length ≤ sizeLine)) = true then .ok (.str d.py.shown) S else .bad
    | _ => .bad)
  | _ => .bad
def rReprQ (K : PySem.W.Frag) : List V → Hp → VK → Prop := fun xs H Q => ∃ x d, xs = [x] ∧ Dp K H x d ∧ d.canLay0 = true ∧ d.depth ≤ 64 ∧ d.showable = true ∧ d.shown.length ≤ sizeLine ∧ Q (.str d.shown) H
theorem call_reprQ (hu : X.A.units + 66 < cLine) (gd : X.A.guards = some []) : CallR X (.builtin "repr") (rReprQ X.K) := by
  intro pins s σ H xs us Q I rr h
  obtain ⟨x, d, rfl, hd, lay, dep, sh, sz, q⟩ := h
  obtain ⟨u, rfl, rx⟩ := vals1 rr
  obtain ⟨as, rd1⟩ := Dp.reads I d x u hd rx
  have fin : ∀ (h2 : Heap) (t tk : Nat), (∀ b o, s.heap.get? b = some o → h2.get? b = some o) → EP X pins σ Q (.str d.shown t) { s with heap := h2, toks := tk } := fun h2 t tk keep => ⟨.str d.shown, H, I.kept keep, ⟨_, rfl⟩, q⟩
  have far : ∀ (a : Addr), u = .ref a → wpAny (model X.prog X.w) X.A (call (.builtin "repr") [u]) (EP X pins σ Q) X.xe s := by
    rintro a rfl
    exact repr_of_reads' rd1 sh (PyData.noDict_hsm (PyData.hasDict_of_canLay d lay)) gd (by omega) (fun _ _ z => z) fin sz
  cases hd with
  | non =>
    cases (show u = Value.none from rx)
    exact PySem.P.repr_of_none (by simpa only [PyData.shown] using fin s.heap _ _ fun _ _ z => z)
  | bl b =>
    cases (show u = Value.bool b from rx)
    exact PySem.P.repr_of_bool (by simpa only [PyData.shown] using fin s.heap _ _ fun _ _ z => z)
  | int i =>
    obtain ⟨t, rfl⟩ := rx
    exact PySem.P.repr_of_int (by simpa [PyData.showable] using sh) (by simpa only [PyData.shown] using fin s.heap _ _ fun _ _ z => z)
  | str y =>
    obtain ⟨t, rfl⟩ := rx
    exact PySem.P.repr_of_str (by simpa only [PyData.shown] using fin s.heap _ _ fun _ _ z => z) (by simpa only [PyData.shown] using sz)
  | lst h1 h2 => exact far _ rx
  | tup h1 h2 => exact far _ rx
theorem ok_repr : BOk X W (rReprQ X.K) reprD := by
  intro σ ι S H xs ds Q rs rx h
  match ds, rx, h with
  | [d], .cons r1 .nil, h =>
    unfold reprD at h
    dsimp only at h
    cases e1 : rd d S with
    | none => rw [e1] at h; exact h.elim
    | some d1 =>
      rw [e1] at h
      dsimp only at h
      by_cases z : (D.flat 60 d1 && d1.py.showable && decide (d1.py.shown.length ≤ sizeLine)) = true
      · rw [if_pos z] at h
        simp only [Bool.and_eq_true, decide_eq_true_eq] at z
        obtain ⟨g1, g2, g3⟩ := (flat_main (sizeOf d1)).1 60 d1 _ (Nat.le_refl _) z.1.1 (vw_of rs r1 e1)
        exact ⟨_, _, rfl, g1, g2, by omega, z.1.2, z.2, fun _ => Out.now h rs _ (.str _)⟩
      · rw [if_neg z] at h; exact h.elim
theorem se_repr (A : Amb X sc ow N k) (hm : X.mg "repr" = none) (hg : glB sc "repr" = true) (ha : SE X W e ma) (hs : starEach [e] X.env = [(false, eval e X.env)] := by rfl) : SE X W (.Call (.Name "repr" p) [e] [] pos) (eBlt reprD (aOne ma)) :=
  se_blt A (call_reprQ (by have := A.room.un; omega) A.grd) ok_repr hm hg (sa_cons ha sa_nil hs) (hv := PyProof.Rows.bootS_repr) (h1 := hs) (h2 := rfl)
end
end Mi
set_option linter.all false
set_option maxRecDepth 100000
/-! Mi, part N: dicts, and what is written. -/
namespace Mi
open PySem L2
/-! ### keys -/
section
variable {X : Cx} {pins : List (Addr × Obj)} {σ : L2.St} {H : Hp} {s : Shared} {ι : Pl} {S : Store}
theorem key_main (I : Inv X pins σ H s) : ∀ j : Nat, (∀ (n : Nat) (d : D) (v : V) (k : NestedKey) (u : Value), sizeOf d ≤ j → D.keyN n d = some k → Rel X.prog X.w X.K ι S H v d → RelV v u → NestedIs s.heap k u ∧ k.depth ≤ n) ∧
    (∀ (n : Nat) (ds : List D) (vs : List V) (ks : List NestedKey) (us : List Value), sizeOf ds ≤ j → D.keyAllN n ds = some ks → RelL X.prog X.w X.K ι S H vs ds → Vals vs us → NestedAll s.heap ks us ∧ NestedKey.depthAll ks ≤ n) := by
  intro j
  induction j with
  | zero => exact ⟨fun n d v k u h => by cases d <;> simp at h, fun n ds vs ks us h => by cases ds <;> simp at h⟩
  | succ j ih =>
    refine ⟨fun n d v k u hs hk r ru => ?_, fun n ds vs ks us hs hk r ru => ?_⟩
    · cases r with
      | non =>
        cases (show u = Value.none from ru)
        simp only [D.keyN, Option.some.injEq] at hk
        subst hk
        exact ⟨.none, by simp [NestedKey.depth]⟩
      | int i =>
        obtain ⟨t, rfl⟩ := ru
        simp only [D.keyN, Option.some.injEq] at hk
        subst hk
        exact ⟨.int i t, by simp [NestedKey.depth]⟩
      | str x =>
        obtain ⟨t, rfl⟩ := ru
        simp only [D.keyN, Option.some.injEq] at hk
        subst hk
        exact ⟨.text x t, by simp [NestedKey.depth]⟩
      | tup e nm rl =>
        cases n with
        | zero => simp [D.keyN] at hk
        | succ n =>
          rename_i a xs ds
          simp only [D.keyN] at hk
          cases z : D.keyAllN n ds with
          | none => rw [z] at hk; cases hk
          | some ks =>
            rw [z] at hk
            cases hk
            cases (show u = Value.ref a from ru)
            obtain ⟨its, rv, ⟨o, ho, hc, c, hd⟩, _⟩ := I.tuple (SqT.of e)
            obtain ⟨g1, g2⟩ := ih.2 n _ _ ks _ (by simp at hs; omega) z rl rv
            exact ⟨.tup ho hc hd g1, by simp only [NestedKey.depth]; omega⟩
      | bl _ => cases n <;> simp [D.keyN] at hk
      | lst _ _ _ => cases n <;> simp [D.keyN] at hk
      | dctK _ _ _ _ => cases n <;> simp [D.keyN] at hk
      | dctN _ _ _ _ _ _ => cases n <;> simp [D.keyN] at hk
      | loc _ => cases n <;> simp [D.keyN] at hk
      | rng _ _ => cases n <;> simp [D.keyN] at hk
    · cases r with
      | nil =>
        cases ru
        simp only [D.keyAllN, Option.some.injEq] at hk
        subst hk
        exact ⟨.nil, by simp [NestedKey.depthAll]⟩
      | cons r1 r2 =>
        rename_i v vs d ds
        cases ru with
        | cons u1 u2 =>
          simp only [D.keyAllN] at hk
          cases z1 : D.keyN n d with
          | none => rw [z1] at hk; cases hk
          | some k1 =>
            cases z2 : D.keyAllN n ds with
            | none => rw [z1, z2] at hk; cases hk
            | some ks1 =>
              rw [z1, z2] at hk
              cases hk
              obtain ⟨g1, g2⟩ := ih.1 n _ _ _ _ (by simp at hs; omega) z1 r1 u1
              obtain ⟨g3, g4⟩ := ih.2 n _ _ _ _ (by simp at hs; omega) z2 r2 u2
              exact ⟨.cons g1 g3, by simp only [NestedKey.depthAll]; omega⟩
theorem key_is (I : Inv X pins σ H s) {d : D} {v : V} {k : NestedKey} {u : Value} (hk : d.key = some k) (r : Rel X.prog X.w X.K ι S H v d) (ru : RelV v u) : NestedIs s.heap k u ∧ k.depth ≤ 8 :=
  (key_main I (sizeOf d)).1 8 d v k u (Nat.le_refl _) hk r ru
def nVal (kvs : List (NestedKey × Addr × V)) (x : NestedKey) : Option V := (kvs.find? fun p => decide (p.1 = x)).map (·.2.2)
/-- the dict's object, with its keys -/
theorem nd_of (I : Inv X pins σ H s) {a : Addr} {kvs : List (NestedKey × Addr × V)} {ks : List D} (h : Rd H a (NDO X.prog X.w a kvs)) (nd : (kvs.map (·.1)).Nodup) (hk : D.keyAll ks = some (kvs.map (·.1))) (r : RelL X.prog X.w X.K ι S H (kvs.map fun p => V.ref p.2.1) ks) :
    (a == sysModules) = false ∧ ∃ xs, s.heap.DictOfH (nestedKind X.prog X.w) a xs ∧ Paired (fun (p : NestedKey × Addr × V) (q : NestedKey × Addr × Value) => p.1 = q.1 ∧ p.2.1 = q.2.1 ∧ RelV p.2.2 q.2.2) kvs xs := by
  obtain ⟨⟨ns, o, es, ep, xs, h1, h2, h3, h4, pr⟩, _⟩ := Rd.ok h I.hok
  have keys : ∀ {kvs : List (NestedKey × Addr × V)} {xs : List (NestedKey × Addr × Value)}, Paired (fun (p : NestedKey × Addr × V) (q : NestedKey × Addr × Value) => p.1 = q.1 ∧ p.2.1 = q.2.1 ∧ RelV p.2.2 q.2.2) kvs xs → kvs.map (·.1) = xs.map (·.1) := by
    intro kvs xs pr
    induction pr with
    | nil => rfl
    | cons h t ih => simp [h.1, ih]
  have all : ∀ {kvs : List (NestedKey × Addr × V)} {ks : List D} {xs : List (NestedKey × Addr × Value)}, Paired (fun (p : NestedKey × Addr × V) (q : NestedKey × Addr × Value) => p.1 = q.1 ∧ p.2.1 = q.2.1 ∧ RelV p.2.2 q.2.2) kvs xs → D.keyAll ks = some (kvs.map (·.1)) → RelL X.prog X.w X.K ι S H (kvs.map fun p => V.ref p.2.1) ks → ∀ x ∈ xs, (nestedKind X.prog X.w).is s.heap x.1 x.2.1 := by
    intro kvs ks xs pr
    induction pr generalizing ks with
    | nil => intro _ _ x hx; cases hx
    | cons h t ih =>
      rename_i p q kvs xs
      intro hk r x hx
      cases r with
      | cons r1 r2 =>
        rename_i d ds
        unfold D.keyAll at hk
        simp only [D.keyAllN] at hk
        cases z1 : D.keyN 8 d with
        | none => rw [z1] at hk; cases hk
        | some k1 =>
          cases z2 : D.keyAllN 8 ds with
          | none => rw [z1, z2] at hk; cases hk
          | some ks1 =>
            rw [z1, z2] at hk
            simp only [Option.some.injEq, List.map_cons, List.cons.injEq] at hk
            rcases List.mem_cons.mp hx with rfl | hx
            · have g := key_is I z1 r1 (rfl : RelV (.ref p.2.1) (.ref p.2.1))
              rw [hk.1, h.1, h.2.1] at g
              exact g
            · exact ih (by unfold D.keyAll; rw [z2, hk.2]) r2 x hx
  exact ⟨ns, xs, ⟨o, es, ep, h1, h2, h3, h4, all pr hk r, by rw [← keys pr]; exact nd⟩, pr⟩
theorem none_nd (I : Inv X pins σ H s) {a : Addr} (h : Rd H a (.dK [])) : (a == sysModules) = false ∧ s.heap.DictOfH (nestedKind X.prog X.w) a [] := by
  obtain ⟨_, ns, vs, kv, o, es, ep, h1, h2, h3, _, h5, _⟩ := Rd.ok h I.hok
  cases kv
  have e : es.toList = [] := by
    cases z : es.toList with
    | nil => rfl
    | cons q qs => rw [z] at h5; cases h5
  exact ⟨ns, o, es, ep, h1, h2, h3, by rw [e]; rfl, (fun x hx => by cases hx), List.Pairwise.nil⟩
theorem nd_of2 (I : Inv X pins σ H s) {a : Addr} {kvs : List (NestedKey × Addr × V)} {ks : List D} (h : Rd H a (NDO X.prog X.w a kvs) ∨ Rd H a (.dK []) ∧ kvs = []) (nd : (kvs.map (·.1)).Nodup) (hk : D.keyAll ks = some (kvs.map (·.1))) (r : RelL X.prog X.w X.K ι S H (kvs.map fun p => V.ref p.2.1) ks) :
    (a == sysModules) = false ∧ ∃ xs, s.heap.DictOfH (nestedKind X.prog X.w) a xs ∧ Paired (fun (p : NestedKey × Addr × V) (q : NestedKey × Addr × Value) => p.1 = q.1 ∧ p.2.1 = q.2.1 ∧ RelV p.2.2 q.2.2) kvs xs := by
  rcases h with h | ⟨h, rfl⟩
  · exact nd_of I h nd hk r
  · obtain ⟨h1, h2⟩ := none_nd I h
    exact ⟨h1, [], h2, .nil⟩
theorem nVal_at {kvs : List (NestedKey × Addr × V)} {xs : List (NestedKey × Addr × Value)} (pr : Paired (fun (p : NestedKey × Addr × V) (q : NestedKey × Addr × Value) => p.1 = q.1 ∧ p.2.1 = q.2.1 ∧ RelV p.2.2 q.2.2) kvs xs) (x : NestedKey) :
    RelO (nVal kvs x) ((atKey xs x).map (·.2)) := by
  induction pr with
  | nil => trivial
  | cons h t ih =>
    rename_i p q kvs xs
    unfold nVal atKey at ih ⊢
    rw [List.find?_cons, List.find?_cons, ← h.1]
    cases z : decide (p.1 = x) with
    | true => exact h.2.2
    | false => exact ih
/-- what the mirror's dict has at a key -/
theorem dGet_n {kvs : List (NestedKey × Addr × V)} {ks vs : List D} (hk : D.keyAll ks = some (kvs.map (·.1))) (r : RelL X.prog X.w X.K ι S H (kvs.map (·.2.2)) vs) (x : NestedKey) :
    (∀ d, dGet ks vs x = some d → ∃ v, nVal kvs x = some v ∧ Rel X.prog X.w X.K ι S H v d) ∧ (dGet ks vs x = none → nVal kvs x = none) := by
  induction kvs generalizing ks vs with
  | nil =>
    cases r
    unfold D.keyAll at hk
    cases ks with
    | nil => exact ⟨fun d h => by simp [dGet] at h, fun _ => rfl⟩
    | cons k ks =>
      simp only [D.keyAllN] at hk
      split at hk <;> simp at hk
  | cons p kvs ih =>
    cases r with
    | cons r1 r2 =>
      rename_i d ds
      unfold D.keyAll at hk
      cases ks with
      | nil => simp [D.keyAllN] at hk
      | cons k ks =>
        simp only [D.keyAllN] at hk
        cases z1 : D.keyN 8 k with
        | none => rw [z1] at hk; cases hk
        | some k1 =>
          cases z2 : D.keyAllN 8 ks with
          | none => rw [z1, z2] at hk; cases hk
          | some ks1 =>
            rw [z1, z2] at hk
            simp only [Option.some.injEq, List.map_cons, List.cons.injEq] at hk
            obtain ⟨e1, e2⟩ := hk
            subst e1
            have ih2 := ih (ks := ks) (vs := ds) (by unfold D.keyAll; rw [z2, e2]) r2
            unfold nVal at ih2 ⊢
            rw [List.find?_cons]
            unfold dGet
            by_cases hx : p.1 = x
            · rw [if_pos (by unfold D.keyIs D.key; rw [z1, hx]; simp), decide_eq_true hx]
              exact ⟨fun d h => by cases h; exact ⟨_, rfl, r1⟩, fun h => by cases h⟩
            · rw [if_neg (by unfold D.keyIs D.key; rw [z1]; simpa using hx), decide_eq_false hx]
              exact ih2
/-! ### dicts of ints and texts -/
def nk : Key → NestedKey
  | .inl i => .num i
  | .inr x => .text x
theorem nk_inj {a b : Key} : nk a = nk b ↔ a = b := by cases a <;> cases b <;> simp [nk]
theorem key_keyD (k : Key) : (keyD k).key = some (nk k) := by cases k <;> simp [keyD, nk, D.key, D.keyN]
/-- the Key of a D -/
def toKey : D → Option Key
  | .int i => some (.inl i)
  | .str x => some (.inr x)
  | _ => none
theorem toKey_rel {P : Program} {w : World} {K : PySem.W.Frag} {d : D} {k : Key} {v : V} (h : toKey d = some k) (r : Rel P w K ι S H v d) : v = kV k := by
  cases d <;> simp [toKey] at h <;> subst h <;> cases r <;> rfl
theorem toKey_key {d : D} {k : Key} (h : toKey d = some k) : d.key = some (nk k) ∧ keyD k = d := by
  cases d <;> simp [toKey] at h <;> subst h <;> exact ⟨by simp [D.key, D.keyN, nk], rfl⟩
theorem dGet_k {P : Program} {w : World} {K : PySem.W.Frag} : ∀ {kvs : List (Key × V)} {vs : List D}, RelL P w K ι S H (kvs.map (·.2)) vs → ∀ k : Key, (∀ d, dGet (kvs.map fun p => keyD p.1) vs (nk k) = some d → ∃ v, valV kvs k = some v ∧ Rel P w K ι S H v d) ∧ (dGet (kvs.map fun p => keyD p.1) vs (nk k) = none → valV kvs k = none)
  | [], _, r, k => ⟨fun d h => by simp [dGet] at h, fun _ => rfl⟩
  | p :: kvs, _, r, k => by
    cases r with
    | cons r1 r2 =>
      have ih := dGet_k r2 k
      simp only [List.map_cons, dGet, D.keyIs, key_keyD, Option.some.injEq, nk_inj, decide_eq_true_eq]
      by_cases h : p.1 = k
      · rw [if_pos h, valV_pos h]
        exact ⟨fun d e => by cases e; exact ⟨_, rfl, r1⟩, fun e => by cases e⟩
      · rw [if_neg h, valV_neg h]
        exact ih
end
section
variable {X : Cx} {W : WE} {sc : Scope} {ow : List (Str × NameKind)} {N : List Str} {k : Nat}
variable {a b e : Expr} {ma mb : EM} {pos : Pos}
/-- what a dict has at a key -/
def dLook (x y : D) (S : Store) : Option (Option D) := match rd x S with
  | some (.dct false ks vs) => (match toKey y, y, ks with
    | some k, _, _ => some (dGet ks vs (nk k))
    | none, .tup l, [] => (D.key (.tup l)).map fun _ => none
    | _, _, _ => none)
  | some (.dct true ks vs) => (match y with
    | .tup _ => y.key.map fun k => dGet ks vs k
    | _ => none)
  | _ => none
/-- the machine's side of it -/
def Lk (X : Cx) (H : Hp) (x y : V) (o : Option V) : Prop := ∃ a, x = .ref a ∧ (DGet H a y o ∨ ∃ b kvs nkey ι S ks d, y = .ref b ∧ (Rd H a (NDO X.prog X.w a kvs) ∨ Rd H a (.dK []) ∧ kvs = []) ∧ (kvs.map (·.1)).Nodup ∧ D.keyAll ks = some (kvs.map (·.1)) ∧ RelL X.prog X.w X.K ι S H (kvs.map fun p => V.ref p.2.1) ks ∧
  d.key = some nkey ∧ Rel X.prog X.w X.K ι S H (.ref b) d ∧ o = nVal kvs nkey)
theorem lk_of {ι : Pl} {S : Store} {H : Hp} {x y : V} {dx dy : D} {o : Option D} (rs : RS X.prog X.w X.K ι S H) (rx : Rel X.prog X.w X.K ι S H x dx) (ry : Rel X.prog X.w X.K ι S H y dy) (h : dLook dx dy S = some o) :
    ∃ ov, Lk X H x y ov ∧ (∀ d, o = some d → ∃ v, ov = some v ∧ Rel X.prog X.w X.K ι S H v d) ∧ (o = none → ov = none) := by
  unfold dLook at h
  cases e1 : rd dx S with
  | none => rw [e1] at h; cases h
  | some d1 =>
    rw [e1] at h
    have v1 := vw_of rs rx e1
    cases d1 with
    | dct bb ks vs =>
      cases bb with
      | false =>
        dsimp only at h
        cases z : toKey dy with
        | none =>
          rw [z] at h
          cases dy with
          | tup l =>
            cases ks with
            | cons _ _ => cases h
            | nil =>
              dsimp only at h
              cases zk : D.key (.tup l) with
              | none => rw [zk] at h; cases h
              | some nkey =>
                rw [zk] at h
                cases h
                generalize hks : ([] : List D) = ks0 at v1
                cases v1 with
                | oth _ no => exact no.elim
                | dctK e nd rl =>
                  rename_i a kvs
                  cases kvs with
                  | cons _ _ => simp at hks
                  | nil =>
                    cases ry with
                    | tup e2 n2 rl2 => exact ⟨none, ⟨a, rfl, .inr ⟨_, [], nkey, ι, S, [], .tup l, rfl, .inr ⟨e, rfl⟩, .nil, by simp [D.keyAll, D.keyAllN], .nil, zk, .tup e2 n2 rl2, rfl⟩⟩, (fun d hd => by cases hd), fun _ => rfl⟩
          | _ => cases h
        | some k =>
          rw [z] at h
          cases h
          cases v1 with
          | oth _ no => exact no.elim
          | dctK e nd rl =>
            rename_i a kvs
            obtain ⟨g1, g2⟩ := dGet_k rl k
            refine ⟨valV kvs k, ⟨a, rfl, .inl (.inl ⟨kvs, k, e, toKey_rel z ry, rfl⟩)⟩, fun d hd => g1 d hd, g2⟩
      | true =>
        cases dy with
        | tup l =>
          dsimp only at h
          cases z : D.key (.tup l) with
          | none => rw [z] at h; cases h
          | some k =>
            rw [z] at h
            cases h
            cases v1 with
            | oth _ no => exact no.elim
            | dctN e nd q r1 r2 =>
              rename_i a kvs
              obtain ⟨g1, g2⟩ := dGet_n q r2 k
              cases ry with
              | tup e2 n2 rl2 => exact ⟨nVal kvs k, ⟨a, rfl, .inr ⟨_, kvs, k, ι, S, ks, .tup l, rfl, .inl e, nd, q, r1, z, .tup e2 n2 rl2, rfl⟩⟩, fun d hd => g1 d hd, g2⟩
        | _ => cases h
    | _ => cases h
theorem lk_type {pins : List (Addr × Obj)} {σ : L2.St} {H : Hp} {s : Shared} {a : Addr} {y : V} {o : Option V} (I : Inv X pins σ H s) (l : Lk X H (.ref a) y o) : s.TypeIs (.ref a) "dict" := by
  obtain ⟨a, e, g | ⟨b, kvs, nkey, ι, S, ks, d, _, h, nd, q, r, _⟩⟩ := l
  · cases e; exact dict_typeIs I g
  · cases e
    obtain ⟨_, xs, hm, _⟩ := nd_of2 I h nd q r
    exact hm.typeIs
def rIxQ (X : Cx) : R2 := fun x y H Q => ∃ v, Lk X H x y (some v) ∧ Q v H
def rInD2 (X : Cx) (n : Bool) : R2 := fun x y H Q => ∃ o, Lk X H y x o ∧ Q (.bl (xor n o.isSome)) H
theorem relO_some {o : Option V} {u : Option Value} {v : V} (r : RelO o u) (h : o = some v) : ∃ w, u = some w ∧ RelV v w := by
  subst h
  cases u with
  | none => exact r.elim
  | some w => exact ⟨w, rfl, r⟩
theorem ix_dQ (hu : X.A.units + 65 < cLine) : IxR X (rIxQ X) := by
  intro value slice pins s σ H x y v u Q I rx ry h hs
  obtain ⟨r, l, q⟩ := h
  obtain ⟨a, rfl, g⟩ := id l
  cases (show v = Value.ref a from rx)
  refine PyProof.Rows.tail_any (lk_type I l) slot_dict_getitem.lookup ?_ hs
  rcases g with g | ⟨b, kvs, nkey, ι, S, ks, d, rfl, h, nd, qk, rl, dk, rb, ov⟩
  · exact d_getItem (by omega) I g ry fun w s2 I2 rw2 => ⟨r, H, I2, rw2, q⟩
  · cases (show u = Value.ref b from ry)
    obtain ⟨y2, xs, hm, pr⟩ := nd_of2 I h nd qk rl
    obtain ⟨w, hw, rw2⟩ := relO_some (nVal_at pr nkey) ov.symm
    obtain ⟨p, hp, hp2⟩ := Option.map_eq_some_iff.mp hw
    refine wpAny_getItem_heap (knd := nestedKind X.prog X.w) (by show X.A.units + 1 + 8 < cLine; omega) (key_is I dk rb rfl) hm hp ?_
    rw [hp2]
    exact ⟨r, H, I.tok _, rw2, q⟩
theorem in_dQ (hu : X.A.units + 65 < cLine) : OpR X (compareOp .In) (rInD2 X false) := by
  intro pins s σ H x y v u Q I rx ry h
  obtain ⟨o, l, q⟩ := h
  rw [Bool.false_xor] at q
  obtain ⟨a, rfl, g⟩ := l
  cases (show u = Value.ref a from ry)
  rcases g with g | ⟨b, kvs, nkey, ι, S, ks, d, rfl, h, nd, qk, rl, dk, rb, ov⟩
  · exact d_in (by omega) I g rx fun s2 I2 => ⟨.bl _, H, I2, rfl, q⟩
  · cases (show v = Value.ref b from rx)
    obtain ⟨y2, xs, hm, pr⟩ := nd_of2 I h nd qk rl
    refine wpAny_in_heap (knd := nestedKind X.prog X.w) (by show X.A.units + 1 + 8 < cLine; omega) (key_is I dk rb rfl) y2 hm ?_
    have z := (nVal_at pr nkey).isSome_eq
    rw [Option.isSome_map] at z
    rw [← z, ← ov]
    exact ⟨.bl _, H, I.tok _, rfl, q⟩
theorem nin_dQ (hu : X.A.units + 65 < cLine) : OpR X (compareOp .NotIn) (rInD2 X true) := by
  intro pins s σ H x y v u Q I rx ry h
  obtain ⟨o, l, q⟩ := h
  rw [Bool.true_xor] at q
  obtain ⟨a, rfl, g⟩ := l
  cases (show u = Value.ref a from ry)
  rcases g with g | ⟨b, kvs, nkey, ι, S, ks, d, rfl, h, nd, qk, rl, dk, rb, ov⟩
  · exact d_notIn (by omega) I g rx fun s2 I2 => ⟨.bl _, H, I2, rfl, q⟩
  · cases (show v = Value.ref b from rx)
    obtain ⟨y2, xs, hm, pr⟩ := nd_of2 I h nd qk rl
    refine PyProof.Rows.wpAny_notIn_heap (knd := nestedKind X.prog X.w) (by show X.A.units + 1 + 8 < cLine; omega) (key_is I dk rb rfl) y2 hm ?_
    have z := (nVal_at pr nkey).isSome_eq
    rw [Option.isSome_map] at z
    rw [← z, ← ov]
    exact ⟨.bl _, H, I.tok _, rfl, q⟩
def dIdx (x y : D) (S : Store) : Res D := match dLook x y S with
  | some (some d) => .ok d S
  | _ => .bad
def dInB (x y : D) (S : Store) : Res Bool := match dLook y x S with
  | some o => .ok o.isSome S
  | _ => .bad
def dNinB (x y : D) (S : Store) : Res Bool := match dLook y x S with
  | some o => .ok (!o.isSome) S
  | _ => .bad
theorem ok_dIdx : OpOk X W (rIxQ X) dIdx := by
  intro σ ι S H x y dx dy Q rs rx ry h
  unfold dIdx at h
  cases z : dLook dx dy S with
  | none => rw [z] at h; exact h.elim
  | some o =>
    rw [z] at h
    cases o with
    | none => exact h.elim
    | some d =>
      obtain ⟨ov, l, g, _⟩ := lk_of rs rx ry z
      obtain ⟨v, rfl, rv⟩ := g d rfl
      exact ⟨v, l, fun _ => Out.now h rs _ rv⟩
theorem ok_dIn : OpOk X W (rInD2 X false) (fB dInB) := by
  intro σ ι S H x y dx dy Q rs rx ry h
  unfold fB dInB at h
  cases z : dLook dy dx S with
  | none => rw [z] at h; exact h.elim
  | some o =>
    rw [z] at h
    obtain ⟨ov, l, g1, g2⟩ := lk_of rs ry rx z
    refine ⟨ov, l, fun _ => ?_⟩
    have e : ov.isSome = o.isSome := by
      cases o with
      | none => rw [g2 rfl]; rfl
      | some d => obtain ⟨v, rfl, _⟩ := g1 d rfl; rfl
    rw [Bool.false_xor, e]
    exact Out.now h rs _ (.bl _)
theorem ok_dNin : OpOk X W (rInD2 X true) (fB dNinB) := by
  intro σ ι S H x y dx dy Q rs rx ry h
  unfold fB dNinB at h
  cases z : dLook dy dx S with
  | none => rw [z] at h; exact h.elim
  | some o =>
    rw [z] at h
    obtain ⟨ov, l, g1, g2⟩ := lk_of rs ry rx z
    refine ⟨ov, l, fun _ => ?_⟩
    have e : ov.isSome = o.isSome := by
      cases o with
      | none => rw [g2 rfl]; rfl
      | some d => obtain ⟨v, rfl, _⟩ := g1 d rfl; rfl
    rw [Bool.true_xor, e]
    exact Out.now h rs _ (.bl _)
theorem se_dget (A : Amb X sc ow N k) (ha : SE X W a ma) (hb : SE X W b mb) (hs : PlainIx b := by intro _ _; rfl) : SE X W (.Subscript a b pos) (eOp2 dIdx ma mb) :=
  PE.use (pe_ix (ix_dQ A.units) ha hb hs) fun _ _ _ kf q => run2 ok_dIdx kf q
theorem st_din (A : Amb X sc ow N k) (ha : SE X W a ma) (hb : SE X W b mb) (hm : behindInMarks .In b = false := by rfl) : ST X W (.Compare a [.In] [b] pos) (tOp2 dInB ma mb) := st_cmp (in_dQ A.units) ok_dIn ha hb hm
theorem st_dnin (A : Amb X sc ow N k) (ha : SE X W a ma) (hb : SE X W b mb) (hm : behindInMarks .NotIn b = false := by rfl) : ST X W (.Compare a [.NotIn] [b] pos) (tOp2 dNinB ma mb) := st_cmp (nin_dQ A.units) ok_dNin ha hb hm
theorem se_din (A : Amb X sc ow N k) (ha : SE X W a ma) (hb : SE X W b mb) (hm : behindInMarks .In b = false := by rfl) : SE X W (.Compare a [.In] [b] pos) (eB (tOp2 dInB ma mb)) := se_cmp (in_dQ A.units) ok_dIn ha hb hm
theorem se_dnin (A : Amb X sc ow N k) (ha : SE X W a ma) (hb : SE X W b mb) (hm : behindInMarks .NotIn b = false := by rfl) : SE X W (.Compare a [.NotIn] [b] pos) (eB (tOp2 dNinB ma mb)) := se_cmp (nin_dQ A.units) ok_dNin ha hb hm
/-! ### len of a dict of any keys -/
def lenA (ds : List D) (S : Store) : Res D := match ds with
  | [d] => (match rd d S with
    | some (.dct _ ks vs) => if vs.length ≤ sizeLine then .ok (.int (vs.length : Nat)) S else .bad
    | _ => .bad)
  | _ => .bad
def rLenA (X : Cx) : List V → Hp → VK → Prop := fun xs H Q => (∃ a kvs, xs = [V.ref a] ∧ Rd H a (.dK kvs) ∧ Q (.int (List.length (α := Key × V) kvs)) H) ∨ ∃ a kvs ι S ks, xs = [V.ref a] ∧ Rd H a (NDO X.prog X.w a kvs) ∧ (kvs.map (·.1)).Nodup ∧ D.keyAll ks = some (kvs.map (·.1)) ∧ RelL X.prog X.w X.K ι S H (kvs.map fun p => V.ref p.2.1) ks ∧ kvs.length ≤ sizeLine ∧ Q (.int kvs.length) H
theorem call_lenA : CallR X (.builtin "len") (rLenA X) := by
  intro pins s σ H xs us Q I rr h
  rcases h with ⟨a, kvs, rfl, e, q⟩ | ⟨a, kvs, ι, S, ks, rfl, e, nd, qk, rl, hl, q⟩
  · obtain ⟨u, rfl, rx⟩ := vals1 rr
    cases (show u = Value.ref a from rx)
    exact d_len I e fun t s2 I2 => ⟨.int kvs.length, H, I2, ⟨_, rfl⟩, q⟩
  · obtain ⟨u, rfl, rx⟩ := vals1 rr
    cases (show u = Value.ref a from rx)
    obtain ⟨ns, ys, hm, pr⟩ := nd_of I e nd qk rl
    have same : kvs.length = ys.length := Paired.length pr
    have big := sizeLine_eq
    refine call_len_dictH ns hm (by omega) ?_
    rw [← same]
    exact ⟨.int kvs.length, H, I.tok _, ⟨_, rfl⟩, q⟩
theorem ok_lenA : BOk X W (rLenA X) lenA := by
  intro σ ι S H xs ds Q rs rx h
  match ds, rx, h with
  | [d], .cons r1 .nil, h =>
    unfold lenA at h
    dsimp only at h
    cases e1 : rd d S with
    | none => rw [e1] at h; exact h.elim
    | some d1 =>
      rw [e1] at h
      have v1 := vw_of rs r1 e1
      cases d1 with
      | dct bb ks vs =>
        dsimp only at h
        by_cases z : vs.length ≤ sizeLine
        · rw [if_pos z] at h
          cases v1 with
          | oth _ no => exact no.elim
          | dctK e nd rl =>
            have hl := RelL.length rl
            rw [List.length_map] at hl
            refine .inl ⟨_, _, rfl, e, fun _ => ?_⟩
            rw [hl]
            exact Out.now h rs _ (.int _)
          | dctN e nd q g1 g2 =>
            have hl := RelL.length g2
            rw [List.length_map] at hl
            refine .inr ⟨_, _, ι, S, ks, rfl, e, nd, q, g1, by omega, fun _ => ?_⟩
            rw [hl]
            exact Out.now h rs _ (.int _)
        · rw [if_neg z] at h; exact h.elim
      | _ => exact h.elim
theorem se_lenA {p : Pos} (A : Amb X sc ow N k) (hm : X.mg "len" = none) (hg : glB sc "len" = true) (ha : SE X W e ma) (hs : starEach [e] X.env = [(false, eval e X.env)] := by rfl) : SE X W (.Call (.Name "len" p) [e] [] pos) (eBlt lenA (aOne ma)) :=
  se_blt A call_lenA ok_lenA hm hg (sa_cons ha sa_nil hs) (hv := PySem.boot_len) (h1 := hs) (h2 := rfl)
end
end Mi
set_option linter.all false
set_option maxRecDepth 100000
/-! Mi, part O: what is written. -/
namespace Mi
open PySem L2
section
variable {P : Program} {w : World} {K : PySem.W.Frag} {ι : Pl} {S : Store} {H : Hp} {a : Addr} {l : Nat} {ob ob' : Ob} {o : HO}
theorem mu_set (h2 : S[l]? = some (some ob)) (b : Addr) : Mu ι (S.set l (some ob')) b ↔ Mu ι S b := by
  have hl : l < S.length := (List.getElem?_eq_some_iff.mp h2).1
  constructor
  · rintro (m | ⟨j, u, g1, g2⟩)
    · exact .inl m
    · by_cases hj : l = j
      · subst hj; exact .inr ⟨l, ob, g1, h2⟩
      · rw [List.getElem?_set_ne hj] at g2; exact .inr ⟨j, u, g1, g2⟩
  · rintro (m | ⟨j, u, g1, g2⟩)
    · exact .inl m
    · by_cases hj : l = j
      · subst hj; exact .inr ⟨l, ob', g1, List.getElem?_set_self hl⟩
      · exact .inr ⟨j, u, g1, by rw [List.getElem?_set_ne hj]; exact g2⟩
/-- the thing at a place is written -/
theorem RS.write (rs : RS P w K ι S H) (h1 : ι.pl[l]? = some a) (h2 : S[l]? = some (some ob))
    (new : StepW ι S H ι (S.set l (some ob')) (upd H a o) → (∀ b, Mu ι (S.set l (some ob')) b → K.lookup b = none) → ObR P w K ι (S.set l (some ob')) (upd H a o) a ob') :
    Step ι S H ι (S.set l (some ob')) (upd H a o) ∧ RS P w K ι (S.set l (some ob')) (upd H a o) := by
  have hl : l < S.length := (List.getElem?_eq_some_iff.mp h2).1
  have mua : Mu ι S a := .inr ⟨l, ob, h1, h2⟩
  have ne : ∀ b, ¬ Mu ι S b → b ≠ a := fun b n e => n (e ▸ mua)
  have stw : StepW ι S H ι (S.set l (some ob')) (upd H a o) := ⟨fun b u e n => ⟨by rw [upd_ne (ne b n)]; exact e, fun m => n ((mu_set h2 b).mp m)⟩, [], by simp⟩
  have mk : ∀ b, Mu ι (S.set l (some ob')) b → K.lookup b = none := fun b m => rs.mu ((mu_set h2 b).mp m)
  have nw := new stw mk
  have old : ∀ (j : Nat) (b : Addr) (u : Ob), ι.pl[j]? = some b → (S.set l (some ob'))[j]? = some (some u) → (j = l ∧ b = a ∧ u = ob') ∨ (b ≠ a ∧ S[j]? = some (some u)) := by
    intro j b u g1 g2
    by_cases hj : l = j
    · subst hj
      rw [h1] at g1
      rw [List.getElem?_set_self hl] at g2
      cases g1; cases g2
      exact .inl ⟨rfl, rfl, rfl⟩
    · rw [List.getElem?_set_ne hj] at g2
      exact .inr ⟨fun e => hj (rs.inj l j a ob u h1 (e ▸ g1) h2 g2), g2⟩
  have nh : a ∉ ι.hid := fun m => (rs.hd a m).2 l ob h1 h2
  refine ⟨⟨stw, rfl, fun b hb => upd_ne fun e => nh (e ▸ hb)⟩, ⟨by simp [rs.len], fun j b u g1 g2 => ?_, fun j j' b u u' g1 g1' g2 g2' => ?_, fun b hb => ⟨?_, fun j u g1 g2 => ?_⟩, fun b u e => ?_⟩⟩
  · rcases old j b u g1 g2 with ⟨_, rfl, rfl⟩ | ⟨e, g3⟩
    · exact nw
    · exact ObR.mono' stw mk (fun u e2 => by rw [upd_ne e]; exact e2) (rs.obj j b u g1 g3)
  · have pre : ∀ (j : Nat) (u : Ob), (S.set l (some ob'))[j]? = some (some u) → ∃ u2, S[j]? = some (some u2) := fun j u g => by
      by_cases hj : l = j
      · subst hj; exact ⟨ob, h2⟩
      · rw [List.getElem?_set_ne hj] at g; exact ⟨u, g⟩
    obtain ⟨x, hx⟩ := pre j u g2
    obtain ⟨y, hy⟩ := pre j' u' g2'
    exact rs.inj j j' b x y g1 g1' hx hy
  · obtain ⟨u, e⟩ := (rs.hd b hb).1
    have nb : b ≠ a := fun z => nh (by rw [← z]; exact hb)
    exact ⟨u, by rw [upd_ne nb]; exact e⟩
  · rcases old j b u g1 g2 with ⟨_, rfl, _⟩ | ⟨_, g3⟩
    · exact nh hb
    · exact (rs.hd b hb).2 j u g1 g3
  · by_cases z : b = a
    · subst z; exact rs.mu mua
    · rw [upd_ne z] at e; exact rs.kf b u e
end
section
variable {X : Cx} {W : WE} {sc : Scope} {ow : List (Str × NameKind)} {N : List Str} {k : Nat}
variable {a b e o : Expr} {ma mb mo : EM} {pos apos : Pos} {es : List Expr} {r : AM}
/-! ### methods -/
def eMth (ty : D → Store → Bool) (f : D → List D → Store → Res D) (o : EM) (r : AM) : EM := fun ρ S => (o ρ S).bind fun d S1 => if ty d S1 = true then (r ρ S1).bind fun ds S2 => f d ds S2 else .bad
def isL (d : D) (S : Store) : Bool := match rd d S with
  | some (.lst _) => true
  | _ => false
def isDK (d : D) (S : Store) : Bool := match d with
  | .loc l => (match S[l]? with
    | some (some (.dct false _ _)) => true
    | _ => false)
  | _ => false
theorem isL_ty {ι : Pl} {S : Store} {H : Hp} {v : V} {d : D} (rs : RS X.prog X.w X.K ι S H) (rv : Rel X.prog X.w X.K ι S H v d) (h : isL d S = true) : tyV X.K "list" v H := by
  unfold isL at h
  cases e1 : rd d S with
  | none => rw [e1] at h; cases h
  | some d1 =>
    rw [e1] at h
    have v1 := vw_of rs rv e1
    cases d1 with
    | lst l =>
      cases v1 with
      | oth _ no => exact no.elim
      | lst s1 r1 => exact .inl ⟨rfl, _, s1⟩
    | _ => cases h
theorem isDK_ty {ι : Pl} {S : Store} {H : Hp} {v : V} {d : D} (rs : RS X.prog X.w X.K ι S H) (rv : Rel X.prog X.w X.K ι S H v d) (h : isDK d S = true) : tyV X.K "dict" v H := by
  unfold isDK at h
  cases d with
  | loc l =>
    cases rv with
    | loc e =>
      dsimp only at h
      cases z : S[l]? with
      | none => rw [z] at h; cases h
      | some oo =>
        rw [z] at h
        cases oo with
        | none => cases h
        | some ob =>
          cases ob with
          | lst _ => cases h
          | dct bb ks vs =>
            cases bb with
            | true => cases h
            | false =>
              have obr := rs.obj _ _ _ e z
              cases obr with
              | dctK e nd rl => exact .inr (.inr (.inl ⟨rfl, .inl ⟨_, e⟩⟩))
  | _ => cases h
def MOk (X : Cx) (W : WE) (R : V → List V → Hp → VK → Prop) (f : D → List D → Store → Res D) : Prop := ∀ (σ : St) (ι : Pl) (S : Store) (H : Hp) (x : V) (xs : List V) (d : D) (ds : List D) (Q : VK), RS X.prog X.w X.K ι S H → Rel X.prog X.w X.K ι S H x d → RelL X.prog X.w X.K ι S H xs ds →
  Out X.prog X.w X.K W σ ι S H (f d ds S) (fun ι' S' H' d => ∀ z, Rel X.prog X.w X.K ι' S' H' z d → Q z H') → R x xs H fun z H' => KF X.K H' → Q z H'
theorem se_mth {T id : String} {name : Str} {R : V → List V → Hp → VK → Prop} {f : D → List D → Store → Res D} {ty : D → Store → Bool} (pa : PlainAttrs T) (slot : Slot T name id) (hty : typeOf (.builtin id) = pure (.type "method_descriptor")) (hm : MtR X id R)
    (tok : ∀ {ι : Pl} {S : Store} {H : Hp} {v : V} {d : D}, RS X.prog X.w X.K ι S H → Rel X.prog X.w X.K ι S H v d → ty d S = true → tyV X.K T v H) (mok : MOk X W R f) (ho : SE X W o mo) (ha : SA X W (e :: es) r)
    (h1 : attributeBase o name X.env (eval o X.env) = eval o X.env := by rfl)
    (h2 : ((backTo pos (starEach (e :: es) X.env)).all (fun x => !x.1) && (backToKw pos (keywordEach [] X.env)).all (fun x => x.1.isSome) && decide ((e :: es).length + ([] : List Keyword).length + (if ([] : List Keyword).isEmpty then 0 else 1) < 30)) = true := by rfl)
    (h3 : (apos.endLine == pos.line) = true := by rfl) (h4 : starEach (e :: es) X.env = (false, eval e X.env) :: starEach es X.env := by rfl) (h5 : (backTo pos (starEach es X.env)).any (·.1) = false := by rfl) :
    SE X W (.Call (.Attribute o name apos) (e :: es) [] pos) (eMth ty f mo r) := by
  refine PE.use (pe_bm pa slot hty hm ho ha h1 h2 h3 h4 h5) fun σ H Q kf q => ?_
  obtain ⟨ι, S, ρ, rs, er, h⟩ := q kf
  refine fun _ => ⟨ι, S, ρ, rs, er, Out.mono (Out.bind h) fun ι1 S1 H1 d st1 rs1 h1 x rx => ?_⟩
  by_cases z : ty d S1 = true
  · rw [if_pos z] at h1
    refine ⟨tok rs1 rx z, fun _ => ⟨ι1, S1, ρ, rs1, er.mono st1 rs1, Out.mono (Out.bind h1) fun ι2 S2 H2 ds st2 rs2 h2 xs rxs => ?_⟩⟩
    exact mok σ ι2 S2 H2 x xs d ds Q rs2 (Rel.mono st2 rs2 _ _ rx) rxs h2
  · rw [if_neg z] at h1
    exact h1.elim
/-- xs.append(v) -/
def appD (d : D) (ds : List D) (S : Store) : Res D := match d, ds with
  | .loc l, [v] => (match S[l]? with
    | some (some (.lst xs)) => if xs.length < sizeLine then .ok .non (S.set l (some (.lst (xs ++ [v])))) else .bad
    | _ => .bad)
  | _, _ => .bad
theorem loc_lst {ι : Pl} {S : Store} {H : Hp} {x : V} {l : Nat} {xs : List D} (rs : RS X.prog X.w X.K ι S H) (rx : Rel X.prog X.w X.K ι S H x (.loc l)) (z : S[l]? = some (some (.lst xs))) : ∃ a ys, x = .ref a ∧ ι.pl[l]? = some a ∧ H a = some (.lst ys) ∧ RelL X.prog X.w X.K ι S H ys xs := by
  cases rx with
  | loc e =>
    have obr := rs.obj _ _ _ e z
    cases obr with
    | lst eh rl => exact ⟨_, _, rfl, e, eh, rl⟩
theorem ok_app : MOk X W rAppend appD := by
  intro σ ι S H x xs d ds Q rs rx rxs h
  unfold appD at h
  cases d with
  | loc l =>
    match ds, rxs, h with
    | [v], .cons rv .nil, h =>
      dsimp only at h
      cases z : S[l]? with
      | none => rw [z] at h; exact h.elim
      | some oo =>
        rw [z] at h
        cases oo with
        | none => exact h.elim
        | some ob =>
          cases ob with
          | dct _ _ _ => exact h.elim
          | lst ys =>
            dsimp only at h
            by_cases hz : ys.length < sizeLine
            · rw [if_pos hz] at h
              obtain ⟨a, zs, rfl, ha, hH, rl⟩ := loc_lst rs rx z
              refine ⟨a, zs, _, rfl, rfl, hH, by rw [RelL.length rl]; exact hz, fun _ => ?_⟩
              obtain ⟨st, rs2⟩ := RS.write (o := .lst (zs ++ _)) (ob' := .lst (ys ++ [v])) rs ha z fun st mk => .lst upd_same (RelL.mono' st mk _ _ (rl.append (.cons rv .nil)))
              exact h ι _ st rs2 _ .non
            · rw [if_neg hz] at h; exact h.elim
    | [], .nil, h => exact h.elim
    | _ :: _ :: _, _, h => exact h.elim
  | _ => exact h.elim
theorem se_append (ho : SE X W o mo) (ha : SE X W e ma) (h1 : attributeBase o "append" X.env (eval o X.env) = eval o X.env := by rfl) (h3 : (apos.endLine == pos.line) = true := by rfl) (h4 : starEach [e] X.env = [(false, eval e X.env)] := by rfl) :
    SE X W (.Call (.Attribute o "append" apos) [e] [] pos) (eMth isL appD mo (aOne ma)) :=
  se_mth PySem.F.plainAttrs_list PySem.F.slot_list_append PySem.F.type_list_append mt_append isL_ty ok_app ho (sa_cons ha sa_nil h4) (h1 := h1) (h2 := by rw [h4]; rfl) (h3 := h3) (h4 := h4) (h5 := rfl)
/-- xs.index(v) -/
def idxAt (x : D) : List D → Nat → Option Nat
  | [], _ => none
  | d :: ds, n => if PyData.eqv d.py x.py = true then some n else idxAt x ds (n + 1)
def indD (d : D) (ds : List D) (S : Store) : Res D := match rd d S, ds with
  | some (.lst l), [v] => if (D.flat 60 (.lst l) && D.flat 60 v) = true then (match idxAt v l 0 with
    | some j => .ok (.int (j : Nat)) S
    | none => .bad) else .bad
  | _, _ => .bad
theorem pyAll_get : ∀ (l : List D) (j : Nat), (D.pyAll l)[j]? = (l[j]?).map D.py
  | [], j => by simp [D.pyAll]
  | d :: l, 0 => by simp [D.pyAll]
  | d :: l, j + 1 => by simp [D.pyAll, pyAll_get l j]
theorem idxAt_is {x : D} : ∀ {l : List D} {n j : Nat}, idxAt x l n = some j → n ≤ j ∧ ∃ z, (D.pyAll l)[j - n]? = some z ∧ PyData.eqv z x.py = true ∧ ∀ (m : Nat) (z2 : PyData), m < j - n → (D.pyAll l)[m]? = some z2 → PyData.eqv z2 x.py = false
  | [], _, _, h => by simp [idxAt] at h
  | d :: l, n, j, h => by
    unfold idxAt at h
    by_cases e : PyData.eqv d.py x.py = true
    · rw [if_pos e] at h
      cases h
      exact ⟨Nat.le_refl _, d.py, by simp [D.pyAll], e, fun m z2 hm => by omega⟩
    · rw [if_neg e] at h
      obtain ⟨h1, z, h2, h3, h4⟩ := idxAt_is h
      have hj : j - n = (j - (n + 1)) + 1 := by omega
      refine ⟨by omega, z, by rw [hj]; simpa [D.pyAll] using h2, h3, fun m z2 hm hz => ?_⟩
      cases m with
      | zero =>
        simp [D.pyAll] at hz
        subst hz
        simpa using e
      | succ m => exact h4 m z2 (by omega) (by simpa [D.pyAll] using hz)
theorem ok_ind : MOk X W (rIndexD X.K) indD := by
  intro σ ι S H x xs d ds Q rs rx rxs h
  unfold indD at h
  cases e1 : rd d S with
  | none => rw [e1] at h; exact h.elim
  | some d1 =>
    rw [e1] at h
    cases d1 with
    | lst l =>
      match ds, rxs, h with
      | [v], .cons rv .nil, h =>
        dsimp only at h
        by_cases hz : (D.flat 60 (.lst l) && D.flat 60 v) = true
        · rw [if_pos hz] at h
          rw [Bool.and_eq_true] at hz
          cases e2 : idxAt v l 0 with
          | none => rw [e2] at h; exact h.elim
          | some j =>
            rw [e2] at h
            obtain ⟨_, z, g1, g2, g3⟩ := idxAt_is e2
            have v1 := vw_of rs rx e1
            obtain ⟨p1, q1⟩ := flat_dp (by omega) hz.1 v1
            obtain ⟨p2, q2⟩ := flat_dp (by omega) hz.2 (rel_vw rv hz.2)
            cases v1 with
            | oth _ no => exact no.elim
            | lst s1 r1 =>
              simp only [D.py] at p1 q1
              exact ⟨_, _, _, _, j, z, rfl, rfl, p1, p2, q1, q2, g1, g2, g3, fun _ => Out.now h rs _ (.int _)⟩
        · rw [if_neg hz] at h; exact h.elim
      | [], .nil, h => exact h.elim
      | _ :: _ :: _, _, h => exact h.elim
    | _ => cases ds <;> exact h.elim
theorem se_index (A : Amb X sc ow N k) (ho : SE X W o mo) (ha : SE X W e ma) (h1 : attributeBase o "index" X.env (eval o X.env) = eval o X.env := by rfl) (h3 : (apos.endLine == pos.line) = true := by rfl) (h4 : starEach [e] X.env = [(false, eval e X.env)] := by rfl) :
    SE X W (.Call (.Attribute o "index" apos) [e] [] pos) (eMth isL indD mo (aOne ma)) :=
  se_mth PySem.F.plainAttrs_list PySem.F.slot_list_index PySem.F.type_list_index (mt_indexD A.units) isL_ty ok_ind ho (sa_cons ha sa_nil h4) (h1 := h1) (h2 := by rw [h4]; rfl) (h3 := h3) (h4 := h4) (h5 := rfl)
/-- xs[i] = v -/
def setL (x i v : D) (S : Store) : Res Unit := match x, i with
  | .loc l, .int j => (match S[l]? with
    | some (some (.lst xs)) => (match ixN xs.length j with
      | some n => .ok () (S.set l (some (.lst (xs.set n v))))
      | none => .bad)
    | _ => .bad)
  | _, _ => .bad
theorem RelL.set {P : Program} {w : World} {K : PySem.W.Frag} {ι : Pl} {S : Store} {H : Hp} {v : V} {d : D} (r : Rel P w K ι S H v d) : ∀ {ds : List D} {xs : List V} (n : Nat), RelL P w K ι S H xs ds → RelL P w K ι S H (xs.set n v) (ds.set n d)
  | [], _, n, h => by cases h; exact .nil
  | _ :: _, _, 0, h => by cases h with | cons _ h2 => exact .cons r h2
  | _ :: _, _, n + 1, h => by cases h with | cons h1 h2 => exact .cons h1 (RelL.set r n h2)
theorem ok_setL : SetOk X W rSetL setL := by
  intro σ ι S H x y z dx dy dz Q rs rx ry rz h
  unfold setL at h
  cases dx with
  | loc l =>
    cases dy with
    | int j =>
      cases ry
      dsimp only at h
      cases e : S[l]? with
      | none => rw [e] at h; exact h.elim
      | some oo =>
        rw [e] at h
        cases oo with
        | none => exact h.elim
        | some ob =>
          cases ob with
          | dct _ _ _ => exact h.elim
          | lst ys =>
            dsimp only at h
            cases en : ixN ys.length j with
            | none => rw [en] at h; exact h.elim
            | some n =>
              rw [en] at h
              obtain ⟨a, zs, rfl, ha, hH, rl⟩ := loc_lst rs rx e
              refine ⟨a, zs, j, n, rfl, rfl, hH, by rw [RelL.length rl]; exact en, fun _ => ?_⟩
              obtain ⟨st, rs2⟩ := RS.write (o := .lst (zs.set n z)) (ob' := .lst (ys.set n dz)) rs ha e fun st mk => .lst upd_same (RelL.mono' st mk _ _ (RelL.set rz n rl))
              exact h ι _ st rs2
    | _ => exact h.elim
  | _ => exact h.elim
theorem sg_setL (ha : SE X W a ma) (hb : SE X W b mb)
    (has : ∀ v, assign (.Subscript a b pos) X.env v = (do
      let ov ← holding [v] (eval a X.env)
      let iv ← holding [v, ov] (eval b X.env)
      standAt pos
      holding [v, ov, iv] (setItem ov iv v)
      release [v, ov, iv] []) := by intro _; rfl) : SG X W [] (.Subscript a b pos) (Mi.gSub setL ma mb) := sg_sub set_list ok_setL ha hb has
end
end Mi
set_option linter.all false
set_option maxRecDepth 100000
/-! Mi, part P: dicts are written, made. -/
namespace Mi
open PySem L2
def dMap (x : NestedKey) (v : D) : List D → List D → List D
  | k :: ks, u :: us => (if D.keyIs x k = true then v else u) :: dMap x v ks us
  | _, _ => []
/-- what a dict is behind d[y] = v -/
def dPutO (b : Bool) (ks vs : List D) (y v : D) : Option Ob := match b, toKey y, y, ks with
  | false, some k, _, _ => some (if (dGet ks vs (nk k)).isSome = true then .dct false ks (dMap (nk k) v ks vs) else .dct false (ks ++ [y]) (vs ++ [v]))
  | false, none, .tup l, [] => (D.key (.tup l)).map fun _ => .dct true [.tup l] [v]
  | true, none, .tup l, ks => (D.key (.tup l)).map fun k => if (dGet ks vs k).isSome = true then .dct true ks (dMap k v ks vs) else .dct true (ks ++ [.tup l]) (vs ++ [v])
  | _, _, _, _ => none
def putD (x y v : D) (S : Store) : Res Unit := match x with
  | .loc l => (match S[l]? with
    | some (some (.dct b ks vs)) => if vs.length < sizeLine then (match dPutO b ks vs y v with
      | some o => .ok () (S.set l (some o))
      | none => .bad) else .bad
    | _ => .bad)
  | _ => .bad
def nPut (kvs : List (NestedKey × Addr × V)) (x : NestedKey) (b : Addr) (v : V) : List (NestedKey × Addr × V) := if (nVal kvs x).isSome = true then kvs.map (fun p => if p.1 = x then (p.1, p.2.1, v) else p) else kvs ++ [(x, b, v)]
theorem nPut_len (kvs : List (NestedKey × Addr × V)) (x : NestedKey) (b : Addr) (v : V) : (nPut kvs x b v).length ≤ kvs.length + 1 := by
  unfold nPut
  split
  · simp
  · simp
abbrev KRel : NestedKey × Addr × V → NestedKey × Addr × Value → Prop := fun p q => p.1 = q.1 ∧ p.2.1 = q.2.1 ∧ RelV p.2.2 q.2.2
theorem nPut_rel {kvs : List (NestedKey × Addr × V)} {xs : List (NestedKey × Addr × Value)} {x : NestedKey} {b : Addr} {v : V} {u : Value} (pr : Paired KRel kvs xs) (rv : RelV v u) : Paired KRel (nPut kvs x b v) (storedH xs x b u) := by
  have he := (nVal_at pr x).isSome_eq
  rw [Option.isSome_map] at he
  unfold nPut storedH
  rw [he]
  cases z : (atKey xs x).isSome with
  | true =>
    rw [if_pos rfl, if_pos rfl]
    clear he z
    induction pr with
    | nil => exact .nil
    | cons h t ih =>
      rename_i p q kvs xs
      refine .cons ?_ ih
      unfold putAt
      dsimp only
      rw [← h.1]
      by_cases e : p.1 = x
      · rw [if_pos e, if_pos e]; exact ⟨rfl, h.2.1, rv⟩
      · rw [if_neg e, if_neg e]; exact h
  | false =>
    rw [if_neg Bool.false_ne_true, if_neg Bool.false_ne_true]
    clear he z
    induction pr with
    | nil => exact .cons ⟨rfl, rfl, rv⟩ .nil
    | cons h t ih => exact .cons h ih
section
variable {X : Cx} {W : WE} {sc : Scope} {ow : List (Str × NameKind)} {N : List Str} {k : Nat}
variable {a b e o : Expr} {ma mb mo : EM} {pos apos : Pos} {es : List Expr} {r : AM}
def NPut (X : Cx) (H : Hp) (a : Addr) (y v : V) (H' : Hp) : Prop := ∃ b kvs nkey ι S ks d, y = .ref b ∧ (H a = some (NDO X.prog X.w a kvs) ∨ H a = some (.dK []) ∧ kvs = []) ∧ (kvs.map (·.1)).Nodup ∧ D.keyAll ks = some (kvs.map (·.1)) ∧ RelL X.prog X.w X.K ι S H (kvs.map fun p => V.ref p.2.1) ks ∧
  d.key = some nkey ∧ Rel X.prog X.w X.K ι S H (.ref b) d ∧ kvs.length < sizeLine ∧ H' = upd H a (NDO X.prog X.w a (nPut kvs nkey b v))
def rSetQ (X : Cx) : TSet := fun o i v H Q => ∃ a H', o = .ref a ∧ (DPut H a i v H' ∨ NPut X H a i v H') ∧ Q H'
theorem ndo_ok {H' : Hp} {h : Heap} {a : Addr} {kvs : List (NestedKey × Addr × V)} {xs : List (NestedKey × Addr × Value)} (ns : (a == sysModules) = false) (hm : h.DictOfH (nestedKind X.prog X.w) a xs) (pr : Paired KRel kvs xs) : ObjOk X.prog X.w H' h a (NDO X.prog X.w a kvs) := by
  obtain ⟨o, es, ep, h1, h2, h3, h4, _, _⟩ := hm
  refine ⟨⟨ns, o, es, ep, xs, h1, h2, h3, h4, pr⟩, ⟨o, h1⟩, ?_⟩
  rintro g1 g2 ⟨n2, o, es, ep, xs, f1, f2⟩ keep
  exact ⟨n2, o, es, ep, xs, keep o f1, f2⟩
theorem empty_nd {pins : List (Addr × Obj)} {σ : L2.St} {H : Hp} {s : Shared} {a : Addr} (I : Inv X pins σ H s) (h : H a = some (.dK [])) : s.heap.DictOfH (nestedKind X.prog X.w) a [] := by
  obtain ⟨_, _, vs, kv, o, es, ep, h1, h2, h3, _, h5, _⟩ := I.hok a _ h
  cases kv
  have e : es.toList = [] := by
    cases z : es.toList with
    | nil => rfl
    | cons q qs => rw [z] at h5; cases h5
  exact ⟨o, es, ep, h1, h2, h3, by rw [e]; rfl, (fun x hx => by cases hx), List.Pairwise.nil⟩
theorem set_dQ (hu : X.A.units + 65 < cLine) : PSet X (rSetQ X) := by
  intro pins s σ H o i v ov iv u Q I ro ri rv h
  obtain ⟨a, H', rfl, g, q⟩ := h
  cases (show ov = Value.ref a from ro)
  rcases g with g | ⟨b, kvs, nkey, ι, S, ks, d, rfl, ha, nd, qk, rl, dk, rb, hl, rfl⟩
  · exact d_setItem (by omega) I g ri rv fun s2 I2 => ⟨H', I2, q⟩
  · cases (show iv = Value.ref b from ri)
    have main : (a == sysModules) = false ∧ ∃ xs, s.heap.DictOfH (nestedKind X.prog X.w) a xs ∧ Paired KRel kvs xs ∧ Mut (H a) := by
      rcases ha with ha | ⟨ha, rfl⟩
      · obtain ⟨ns, xs, hm, pr⟩ := nd_of I (.inl ha) nd qk rl
        exact ⟨ns, xs, hm, pr, by rw [ha]; exact True.intro⟩
      · exact ⟨(dk_of I.hok ha).2.1, [], empty_nd I ha, .nil, by rw [ha]; exact True.intro⟩
    obtain ⟨ns, xs, hm, pr, mu⟩ := main
    have hz : xs.length ≤ sizeLine := by rw [← Paired.length pr]; omega
    refine wpAny_setItem_heap (hsz := hz) (knd := nestedKind X.prog X.w) (by show X.A.units + 1 + 8 < cLine; omega) (key_is I dk rb rfl) hm fun h2 hm2 hs => ?_
    refine ⟨_, d_write I mu hs ?_ (ndo_ok ns hm2 (nPut_rel pr rv)), q⟩
    obtain ⟨q, _, _, hq, _⟩ := hm2
    exact ⟨q, hq⟩
theorem isSome_eq_of {α β : Type} {o : Option α} {p : Option β} {R : α → β → Prop} (h1 : ∀ d, o = some d → ∃ v, p = some v ∧ R d v) (h2 : o = none → p = none) : p.isSome = o.isSome := by
  cases o with
  | none => rw [h2 rfl]; rfl
  | some d => obtain ⟨v, rfl, _⟩ := h1 d rfl; rfl
theorem dMap_k {P : Program} {w : World} {K : PySem.W.Frag} {ι : Pl} {S : Store} {H : Hp} {v : V} {d : D} (r : Rel P w K ι S H v d) (k : Key) : ∀ {kvs : List (Key × V)} {vs : List D}, RelL P w K ι S H (kvs.map (·.2)) vs →
    RelL P w K ι S H ((kvs.map fun kv => if kv.1 = k then (kv.1, v) else kv).map (·.2)) (dMap (nk k) d (kvs.map fun p => keyD p.1) vs)
  | [], _, h => by cases h; exact .nil
  | p :: kvs, _, h => by
    cases h with
    | cons h1 h2 =>
      have ih := dMap_k r k h2
      simp only [List.map_cons, dMap, D.keyIs, key_keyD, Option.some.injEq, nk_inj, decide_eq_true_eq]
      by_cases e : p.1 = k
      · rw [if_pos e, if_pos e]; exact .cons r ih
      · rw [if_neg e, if_neg e]; exact .cons h1 ih
theorem keys_map {κ : Type} [DecidableEq κ] (k : κ) (v : V) (kvs : List (κ × V)) : (kvs.map fun kv => if kv.1 = k then (kv.1, v) else kv).map (·.1) = kvs.map (·.1) := by
  induction kvs with
  | nil => rfl
  | cons p kvs ih =>
    simp only [List.map_cons, ih]
    by_cases e : p.1 = k
    · rw [if_pos e]
    · rw [if_neg e]
theorem valV_none {kvs : List (Key × V)} {k : Key} (h : valV kvs k = none) : k ∉ kvs.map (·.1) := by
  intro hm
  obtain ⟨p, hp, e⟩ := List.mem_map.mp hm
  have z := valV_any k kvs
  rw [h] at z
  have : (kvs.any fun kv => decide (kv.1 = k)) = true := List.any_eq_true.mpr ⟨p, hp, by simpa using e⟩
  rw [this] at z
  cases z
theorem nodup_snoc {α : Type} {l : List α} {x : α} (h : l.Nodup) (hx : x ∉ l) : (l ++ [x]).Nodup := by
  rw [List.nodup_append]
  exact ⟨h, by simp, fun a ha b hb e => by simp at hb; subst hb; subst e; exact hx ha⟩
theorem dMap_n {P : Program} {w : World} {K : PySem.W.Frag} {ι : Pl} {S : Store} {H : Hp} {v : V} {d : D} (r : Rel P w K ι S H v d) (x : NestedKey) : ∀ {kvs : List (NestedKey × Addr × V)} {ks vs : List D}, D.keyAll ks = some (kvs.map (·.1)) → RelL P w K ι S H (kvs.map (·.2.2)) vs →
    RelL P w K ι S H ((kvs.map fun p => if p.1 = x then (p.1, p.2.1, v) else p).map (·.2.2)) (dMap x d ks vs)
  | [], ks, _, hk, h => by
    cases h
    cases ks with
    | nil => exact .nil
    | cons k ks =>
      unfold D.keyAll at hk
      simp only [D.keyAllN] at hk
      split at hk <;> simp at hk
  | p :: kvs, ks, _, hk, h => by
    cases h with
    | cons h1 h2 =>
      unfold D.keyAll at hk
      cases ks with
      | nil => simp [D.keyAllN] at hk
      | cons k ks =>
        simp only [D.keyAllN] at hk
        cases z1 : D.keyN 8 k with
        | none => rw [z1] at hk; cases hk
        | some k1 =>
          cases z2 : D.keyAllN 8 ks with
          | none => rw [z1, z2] at hk; cases hk
          | some ks1 =>
            rw [z1, z2] at hk
            simp only [Option.some.injEq, List.map_cons, List.cons.injEq] at hk
            have ih := dMap_n r x (ks := ks) (by unfold D.keyAll; rw [z2, hk.2]) h2
            simp only [List.map_cons, dMap, D.keyIs, D.key, z1, hk.1, Option.some.injEq, decide_eq_true_eq]
            by_cases e : p.1 = x
            · rw [if_pos e, if_pos e]; exact .cons r ih
            · rw [if_neg e, if_neg e]; exact .cons h1 ih
theorem keyAll_snoc {ks : List D} {d : D} {nks : List NestedKey} {x : NestedKey} (h : D.keyAll ks = some nks) (hd : d.key = some x) : D.keyAll (ks ++ [d]) = some (nks ++ [x]) := by
  induction ks generalizing nks with
  | nil =>
    unfold D.keyAll at h ⊢
    unfold D.key at hd
    simp only [D.keyAllN, Option.some.injEq] at h
    subst h
    simp [D.keyAllN, hd]
  | cons k ks ih =>
    unfold D.keyAll at h ih ⊢
    simp only [List.cons_append, D.keyAllN] at h ⊢
    cases z1 : D.keyN 8 k with
    | none => rw [z1] at h; cases h
    | some k1 =>
      cases z2 : D.keyAllN 8 ks with
      | none => rw [z1, z2] at h; cases h
      | some ks1 =>
        rw [z1, z2] at h
        simp only [Option.some.injEq] at h
        subst h
        rw [ih z2]
        rfl
theorem nVal_none {kvs : List (NestedKey × Addr × V)} {x : NestedKey} (h : nVal kvs x = none) : x ∉ kvs.map (·.1) := by
  intro hm
  obtain ⟨p, hp, e⟩ := List.mem_map.mp hm
  unfold nVal at h
  rw [Option.map_eq_none_iff, List.find?_eq_none] at h
  exact h p hp (by simpa using e)
/-- the new thing at the place -/
theorem putO_ok {ι : Pl} {S : Store} {H : Hp} {y v : V} {dy dv : D} {a : Addr} {bb : Bool} {ks vs : List D} {ob : Ob} (rs : RS X.prog X.w X.K ι S H) (obr : ObR X.prog X.w X.K ι S H a (.dct bb ks vs)) (ry : Rel X.prog X.w X.K ι S H y dy) (rv : Rel X.prog X.w X.K ι S H v dv)
    (hl : vs.length < sizeLine) (h : dPutO bb ks vs dy dv = some ob) : ∃ o, (DPut H a y v (upd H a o) ∨ NPut X H a y v (upd H a o)) ∧ ∀ {ι' S' H'}, H' a = some o → StepW ι S H ι' S' H' → (∀ b, Mu ι' S' b → X.K.lookup b = none) → ObR X.prog X.w X.K ι' S' H' a ob := by
  cases obr with
  | dctK e nd rl =>
    rename_i kvs
    have hlen : kvs.length = vs.length := by have := RelL.length rl; rwa [List.length_map] at this
    cases zk : toKey dy with
    | some k =>
      have hp : some (if (dGet (kvs.map fun p => keyD p.1) vs (nk k)).isSome = true then Ob.dct false (kvs.map fun p => keyD p.1) (dMap (nk k) dv (kvs.map fun p => keyD p.1) vs) else .dct false ((kvs.map fun p => keyD p.1) ++ [dy]) (vs ++ [dv])) = some ob := by
        unfold dPutO at h
        rw [zk] at h
        exact h
      have ky := toKey_rel zk ry
      have kd := (toKey_key zk).2
      obtain ⟨g1, g2⟩ := dGet_k rl k
      have hs : (valV kvs k).isSome = (dGet (kvs.map fun p => keyD p.1) vs (nk k)).isSome := isSome_eq_of (R := fun d v => Rel X.prog X.w X.K ι S H v d) g1 g2
      refine ⟨.dK (putK kvs k v), .inl ?_, fun {ι' S' H'} at2 st mk => ?_⟩
      · rw [ky]; exact DPut.k e (by omega)
      · cases zs : (dGet (kvs.map fun p => keyD p.1) vs (nk k)).isSome with
        | true =>
          rw [zs, if_pos rfl] at hp
          cases hp
          have ep : putK kvs k v = kvs.map fun kv => if kv.1 = k then (kv.1, v) else kv := by
            unfold putK
            rw [valV_any, hs, zs, if_pos rfl]
          rw [ep] at at2
          have r2 := RelL.mono' st mk _ _ (dMap_k rv k rl)
          have nd2 : ((kvs.map fun kv => if kv.1 = k then (kv.1, v) else kv).map (·.1)).Nodup := by rw [keys_map]; exact nd
          have ke : (kvs.map fun p => keyD p.1) = (kvs.map fun kv => if kv.1 = k then (kv.1, v) else kv).map fun p => keyD p.1 := by
            have t := congrArg (List.map keyD) (keys_map k v kvs)
            simp only [List.map_map] at t ⊢
            exact t.symm
          have := ObR.dctK at2 nd2 r2
          rw [← ke] at this
          exact this
        | false =>
          rw [zs, if_neg Bool.false_ne_true] at hp
          cases hp
          have nn : valV kvs k = none := by
            rw [zs] at hs
            cases q : valV kvs k with
            | none => rfl
            | some _ => rw [q] at hs; cases hs
          rw [putK_new v nn] at at2
          have r2 : RelL X.prog X.w X.K ι S H ((kvs ++ [(k, v)]).map (·.2)) (vs ++ [dv]) := by
            rw [List.map_append]
            exact rl.append (.cons rv .nil)
          have nd2 : ((kvs ++ [(k, v)]).map (·.1)).Nodup := by
            rw [List.map_append]
            exact nodup_snoc nd (valV_none nn)
          have := ObR.dctK at2 nd2 (RelL.mono' st mk _ _ r2)
          rw [List.map_append] at this
          simp only [List.map_cons, List.map_nil, kd] at this
          exact this
    | none =>
      cases dy with
      | tup l =>
        cases kvs with
        | cons p kvs => unfold dPutO at h; rw [zk] at h; cases h
        | nil =>
          cases rl
          unfold dPutO at h
          rw [zk] at h
          simp only [List.map_nil] at h
          cases zz : D.key (.tup l) with
          | none => rw [zz] at h; cases h
          | some nkey =>
            rw [zz] at h
            cases h
            cases ry with
            | tup e2 n2 rl2 =>
              rename_i b xs
              have rb : Rel X.prog X.w X.K ι S H (.ref b) (.tup l) := .tup e2 n2 rl2
              refine ⟨NDO X.prog X.w a [(nkey, b, v)], .inr ⟨b, [], nkey, ι, S, [], .tup l, rfl, .inr ⟨e, rfl⟩, .nil, rfl, .nil, zz, rb, by simpa using hl, rfl⟩, fun {ι' S' H'} at2 st mk => ?_⟩
              exact .dctN at2 (by simp) (keyAll_snoc (ks := []) (nks := []) rfl zz) (.cons (Rel.mono' st mk _ _ rb) .nil) (.cons (Rel.mono' st mk _ _ rv) .nil)
      | _ => unfold dPutO at h; rw [zk] at h; cases kvs <;> cases h
  | dctN e nd q r1 r2 =>
    rename_i kvs
    have hlen : kvs.length = vs.length := by have := RelL.length r2; rwa [List.length_map] at this
    cases zk : toKey dy with
    | some k => unfold dPutO at h; rw [zk] at h; cases h
    | none =>
      cases dy with
      | tup l =>
        unfold dPutO at h
        rw [zk] at h
        dsimp only at h
        cases zz : D.key (.tup l) with
        | none => rw [zz] at h; cases h
        | some nkey =>
          rw [zz] at h
          cases ry with
          | tup e2 n2 rl2 =>
            rename_i b xs
            have rb : Rel X.prog X.w X.K ι S H (.ref b) (.tup l) := .tup e2 n2 rl2
            obtain ⟨g1, g2⟩ := dGet_n q r2 nkey
            have hs : (nVal kvs nkey).isSome = (dGet ks vs nkey).isSome := isSome_eq_of (R := fun d v => Rel X.prog X.w X.K ι S H v d) g1 g2
            refine ⟨NDO X.prog X.w a (nPut kvs nkey b v), .inr ⟨b, kvs, nkey, ι, S, ks, .tup l, rfl, .inl e, nd, q, r1, zz, rb, by omega, rfl⟩, fun {ι' S' H'} at2 st mk => ?_⟩
            have h : (if (dGet ks vs nkey).isSome = true then Ob.dct true ks (dMap nkey dv ks vs) else .dct true (ks ++ [.tup l]) (vs ++ [dv])) = ob := by
              simpa using h
            unfold nPut at at2
            rw [hs] at at2
            cases zs : (dGet ks vs nkey).isSome with
            | true =>
              rw [zs, if_pos rfl] at at2 h
              subst h
              have ke : (kvs.map fun p => if p.1 = nkey then (p.1, p.2.1, v) else p).map (·.1) = kvs.map (·.1) := by
                rw [List.map_map]
                refine List.map_congr_left fun p _ => ?_
                show (if p.1 = nkey then (p.1, p.2.1, v) else p).1 = p.1
                by_cases e : p.1 = nkey
                · rw [if_pos e]
                · rw [if_neg e]
              have ka : ((kvs.map fun p => if p.1 = nkey then (p.1, p.2.1, v) else p).map fun p => V.ref p.2.1) = kvs.map fun p => V.ref p.2.1 := by
                rw [List.map_map]
                refine List.map_congr_left fun p _ => ?_
                show V.ref (if p.1 = nkey then (p.1, p.2.1, v) else p).2.1 = V.ref p.2.1
                by_cases e : p.1 = nkey
                · rw [if_pos e]
                · rw [if_neg e]
              refine .dctN at2 (by rw [ke]; exact nd) (by rw [ke]; exact q) (by rw [ka]; exact RelL.mono' st mk _ _ r1) (RelL.mono' st mk _ _ (dMap_n rv nkey q r2))
            | false =>
              rw [zs, if_neg Bool.false_ne_true] at at2 h
              subst h
              have nn : nVal kvs nkey = none := by
                rw [zs] at hs
                cases q2 : nVal kvs nkey with
                | none => rfl
                | some _ => rw [q2] at hs; cases hs
              refine .dctN at2 (by rw [List.map_append]; exact nodup_snoc nd (nVal_none nn)) (by rw [List.map_append]; exact keyAll_snoc q zz) ?_ ?_
              · rw [List.map_append]
                exact (RelL.mono' st mk _ _ r1).append (.cons (Rel.mono' st mk _ _ rb) .nil)
              · rw [List.map_append]
                exact (RelL.mono' st mk _ _ r2).append (.cons (Rel.mono' st mk _ _ rv) .nil)
      | _ => unfold dPutO at h; rw [zk] at h; cases h
theorem loc_dct {ι : Pl} {S : Store} {H : Hp} {x : V} {l : Nat} {ob : Ob} (rs : RS X.prog X.w X.K ι S H) (rx : Rel X.prog X.w X.K ι S H x (.loc l)) (z : S[l]? = some (some ob)) : ∃ a, x = .ref a ∧ ι.pl[l]? = some a ∧ ObR X.prog X.w X.K ι S H a ob := by
  cases rx with
  | loc e => exact ⟨_, rfl, e, rs.obj _ _ _ e z⟩
theorem ok_putD : SetOk X W (rSetQ X) putD := by
  intro σ ι S H x y z dx dy dz Q rs rx ry rz h
  unfold putD at h
  cases dx with
  | loc l =>
    dsimp only at h
    cases e : S[l]? with
    | none => rw [e] at h; exact h.elim
    | some oo =>
      rw [e] at h
      cases oo with
      | none => exact h.elim
      | some ob =>
        cases ob with
        | lst _ => exact h.elim
        | dct bb ks vs =>
          dsimp only at h
          by_cases hl : vs.length < sizeLine
          · rw [if_pos hl] at h
            cases en : dPutO bb ks vs dy dz with
            | none => rw [en] at h; exact h.elim
            | some ob2 =>
              rw [en] at h
              obtain ⟨a, rfl, ha, obr⟩ := loc_dct rs rx e
              obtain ⟨o, puts, new⟩ := putO_ok rs obr ry rz hl en
              obtain ⟨st, rs2⟩ := RS.write (o := o) (ob' := ob2) rs ha e fun st mk => new upd_same st mk
              exact ⟨a, _, rfl, puts, fun _ => h ι _ st rs2⟩
          · rw [if_neg hl] at h; exact h.elim
  | _ => exact h.elim
theorem sg_putD (A : Amb X sc ow N k) (ha : SE X W a ma) (hb : SE X W b mb)
    (has : ∀ v, assign (.Subscript a b pos) X.env v = (do
      let ov ← holding [v] (eval a X.env)
      let iv ← holding [v, ov] (eval b X.env)
      standAt pos
      holding [v, ov, iv] (setItem ov iv v)
      release [v, ov, iv] []) := by intro _; rfl) : SG X W [] (.Subscript a b pos) (Mi.gSub putD ma mb) := sg_sub (set_dQ A.units) ok_putD ha hb has
/-- {} -/
def eDict : EM := fun _ S => .ok (.loc S.length) (S ++ [some (.dct false [] [])])
theorem loc_last {P : Program} {w : World} {K : PySem.W.Frag} {ι : Pl} {S : Store} {H : Hp} {p : Addr} (rs : RS P w K ι S H) {ι2 : Pl} (h : ι2.pl = ι.pl ++ [p]) : ι2.pl[S.length]? = some p := by
  rw [h, ← rs.len, List.getElem?_append_right (Nat.le_refl _), Nat.sub_self]
  rfl
theorem se_dict : SE X W (.Dict [] [] pos) eDict := by
  refine PE.use pe_dnewK fun σ H Q kf q => ?_
  obtain ⟨ι, S, ρ, rs, er, h⟩ := q kf
  intro p hp kf2
  obtain ⟨st2, rs2⟩ := RS.put (o := .dK []) (ob := .dct false [] []) rs hp kf2 fun ι' S' st mk => .dctK (kvs := []) upd_same .nil .nil
  exact h _ _ st2 rs2 (.ref p) (.loc (loc_last rs rfl))
/-- {'a': .., ..}: nothing is raised while it is made -/
def eDisp (ks : List Str) (r : AM) : EM := fun ρ S => match r ρ S with
  | .ok ds S1 => if ds.length = ks.length then .ok (.loc S1.length) (S1 ++ [some (.dct false (ks.map D.str) ds)]) else .bad
  | _ => .bad
structure SPs (X : Cx) (pos : Pos) (keys : List (Option Expr)) (values : List Expr) (ks : List Str) (r : AM) : Prop where
  ex : ∃ trs, PPs X pos keys values trs ∧ (values ≠ [] → ∀ σ H Q, ¬ KF X.K H → tPairs trs σ H Q) ∧ ∀ σ H (Q : List (V × V) → Hp → Prop), KF X.K H → (∃ ι S ρ, RS X.prog X.w X.K ι S H ∧ EnvR X.prog X.w X.K ι S ρ σ H ∧ Out X.prog X.w X.K W0 σ ι S H (r ρ S) fun ι' S' H' ds => ∀ xs, RelL X.prog X.w X.K ι' S' H' xs ds → Q ((ks.map V.str).zip xs) H') → tPairs trs σ H Q
theorem sp_nil : SPs X pos [] [] [] aNil := ⟨[], pps_nil, fun h => absurd rfl h, fun σ H Q kf q => by
  obtain ⟨ι, S, ρ, rs, er, o⟩ := q
  exact Out.now o rs [] .nil⟩
theorem sp_cons {x : Str} {j : Nat} {p : Pos} {keys : List (Option Expr)} {values : List Expr} {ks : List Str} (ha : SE X W0 a ma) (hr : SPs X pos keys values ks r) : SPs X pos (some (.Constant (.str x) j p) :: keys) (a :: values) (x :: ks) (aCons ma r) := by
  obtain ⟨trs, h1, _, h2⟩ := hr.ex
  refine ⟨_, pps_cons pe_str ha h1, fun _ σ H Q nkf kf => absurd kf nkf, fun σ H Q kf q => ?_⟩
  obtain ⟨ι, S, ρ, rs, er, h⟩ := q
  show rE X.prog X.w X.K W0 ma σ H _
  refine fun _ => ⟨ι, S, ρ, rs, er, Out.mono (Out.bind h) fun ι1 S1 H1 dx st1 rs1 h3 y ry => ?_⟩
  refine h2 σ H1 (fun ps H3 => Q ((.str x, y) :: ps) H3) rs1.kf ⟨ι1, S1, ρ, rs1, er.mono st1 rs1, Out.mono (Out.bind h3) fun ι2 S2 H2 ds st2 rs2 h4 xs rx => ?_⟩
  exact Out.now h4 rs2 (y :: xs) (.cons (Rel.mono st2 rs2 _ _ ry) rx)
theorem mergeK_new : ∀ (more kvs : List (Key × V)), ((kvs ++ more).map (·.1)).Nodup → mergeK kvs more = kvs ++ more
  | [], kvs, _ => by simp [mergeK]
  | p :: more, kvs, h => by
    have hn : valV kvs p.1 = none := by
      have z := valV_any p.1 kvs
      cases q : valV kvs p.1 with
      | none => rfl
      | some v =>
        rw [q] at z
        obtain ⟨x, hx, e⟩ := List.any_eq_true.mp (show (kvs.any fun kv => decide (kv.1 = p.1)) = true from z)
        rw [List.map_append, List.nodup_append] at h
        exact absurd rfl (h.2.2 p.1 (List.mem_map.mpr ⟨x, hx, by simpa using e⟩) p.1 (by simp))
    show mergeK (putK kvs p.1 p.2) more = _
    rw [putK_new p.2 hn]
    have := mergeK_new more (kvs ++ [(p.1, p.2)]) (by simpa using h)
    rw [this]
    simp
theorem zip_kvs : ∀ {ks : List Str} {xs : List V}, xs.length = ks.length → (ks.map V.str).zip xs = ((ks.map (fun x : Str => (Sum.inr x : Key))).zip xs).map fun kv => (kV kv.1, kv.2)
  | [], [], _ => rfl
  | k :: ks, x :: xs, h => by
    have := zip_kvs (ks := ks) (xs := xs) (by simpa using h)
    simp only [List.map_cons, List.zip_cons_cons, this]
    rfl
theorem zip_fst {α β : Type} : ∀ {ks : List α} {xs : List β}, xs.length = ks.length → (ks.zip xs).map (·.1) = ks ∧ (ks.zip xs).map (·.2) = xs
  | [], [], _ => ⟨rfl, rfl⟩
  | k :: ks, x :: xs, h => by
    obtain ⟨h1, h2⟩ := zip_fst (ks := ks) (xs := xs) (by simpa using h)
    exact ⟨by simp [h1], by simp [h2]⟩
theorem se_disp {x : Str} {j : Nat} {p : Pos} {keys : List (Option Expr)} {values : List Expr} {ks : List Str} {v0 : Expr} (h : SPs X pos (some (.Constant (.str x) j p) :: keys) (v0 :: values) ks r)
    (hk : (keys.all (·.isSome) && decide (keys.length = values.length) && decide (keys.length < 15) && decide (ks.length ≤ 15) && decide ks.Nodup) = true) : SE X W (.Dict (some (.Constant (.str x) j p) :: keys) (v0 :: values) pos) (eDisp ks r) := by
  simp only [Bool.and_eq_true, decide_eq_true_eq] at hk
  obtain ⟨⟨⟨⟨k1, k2⟩, k3⟩, k4⟩, k5⟩ := hk
  obtain ⟨trs, h1, h0, h2⟩ := h.ex
  refine PE.use (pe_disp h1 (by simpa using k1) (by simp [k2]) (by simp) (by simp; omega)) fun σ H Q kf q => ?_
  obtain ⟨ι, S, ρ, rs, er, o⟩ := q kf
  intro pa hp
  by_cases kp : KF X.K (upd H pa (.dK []))
  · -- the new dict stands, hidden, while its values are made
    obtain ⟨sh, rsh⟩ := rs.hide (o := .dK []) hp kp
    have nh : pa ∉ ι.hid := fun z => by
      obtain ⟨u, e⟩ := (rs.hd pa z).1
      rw [hp] at e; cases e
    refine h2 σ (upd H pa (.dK [])) _ kp ⟨_, S, ρ, rsh, EnvR.monoW sh rsh er, ?_⟩
    unfold eDisp at o
    cases hr : r ρ S with
    | bad => rw [hr] at o; exact o.elim
    | ex e1 S1 => rw [hr] at o; exact o.elim
    | ok ds S1 =>
      rw [hr] at o
      dsimp only at o
      by_cases hl : ds.length = ks.length
      · rw [if_pos hl] at o
        intro ι1 H1 st1 rs1 xs rx
        obtain ⟨pl1, hid1⟩ := ι1
        have hid : hid1 = pa :: ι.hid := st1.hid
        subst hid
        have here : H1 pa = some (.dK []) := (st1.hk pa List.mem_cons_self).trans upd_same
        obtain ⟨st3, rs3⟩ := rs1.ready nh
        have st4 : Step ι S H ⟨pl1, ι.hid⟩ S1 (era H1 pa) := ⟨sh.trans (st1.toStepW.trans st3), rfl, fun a ha => by
          have na : a ≠ pa := fun z => nh (by rw [← z]; exact ha)
          rw [era_ne na]
          exact (st1.hk a (List.mem_cons_of_mem _ ha)).trans (upd_ne na)⟩
        have xl : xs.length = ks.length := (RelL.length rx).trans hl
        have xl2 : xs.length = (ks.map (fun x : Str => (Sum.inr x : Key))).length := by rw [List.length_map]; exact xl
        obtain ⟨z1, z2⟩ := zip_fst xl2
        have nd : (((ks.map (fun x : Str => (Sum.inr x : Key))).zip xs).map (·.1)).Nodup := by
          rw [z1, List.nodup_iff_pairwise_ne, List.pairwise_map]
          rw [List.nodup_iff_pairwise_ne] at k5
          exact k5.imp fun hab e => hab (Sum.inr.inj e)
        refine ⟨here, (ks.map (fun x : Str => (Sum.inr x : Key))).zip xs, zip_kvs xl, by rw [List.length_zip, List.length_map]; omega, fun kf2 => ?_⟩
        rw [mergeK_new _ [] (by simpa using nd), List.nil_append] at kf2 ⊢
        have same : upd (era H1 pa) pa (.dK ((ks.map (fun x : Str => (Sum.inr x : Key))).zip xs)) = upd H1 pa (.dK ((ks.map (fun x : Str => (Sum.inr x : Key))).zip xs)) := by
          funext b
          by_cases z : b = pa
          · rw [z, upd_same, upd_same]
          · rw [upd_ne z, upd_ne z, era_ne z]
        rw [← same] at kf2 ⊢
        obtain ⟨st5, rs5⟩ := RS.put (ob := .dct false (ks.map D.str) ds) rs3 era_same kf2 fun ι' S' st mk => by
          have := ObR.dctK (P := X.prog) (w := X.w) (K := X.K) (ι := ι') (S := S') (a := pa) (vs := ds) (upd_same (H := era H1 pa)) nd (by rw [z2]; exact RelL.mono' st mk _ _ (RelL.monoW st3 rs3 _ _ rx))
          have ke : (((ks.map (fun x : Str => (Sum.inr x : Key))).zip xs).map fun p => keyD p.1) = ks.map D.str := by
            have t := congrArg (List.map keyD) z1
            rw [List.map_map, List.map_map] at t
            exact t
          rw [ke] at this
          exact this
        exact o _ _ (st4.trans st5) rs5 (.ref pa) (.loc (loc_last rs3 rfl))
      · rw [if_neg hl] at o; exact o.elim
  · exact h0 (by simp) _ _ _ kp
end
end Mi
set_option linter.all false
set_option maxRecDepth 100000
/-! Mi, part Q: the law's def at the end. -/
namespace Mi
open PySem L2 PySem.Spec PyProof.Rows
theorem ints_rel {P : Program} {w : World} {K : PySem.W.Frag} {ι : Pl} {S : Store} {H : Hp} : ∀ ns : List Int, RelL P w K ι S H (ns.map V.int) (ns.map D.int)
  | [] => .nil
  | n :: ns => .cons (.int n) (ints_rel ns)
/-- the promise at a heap in which nothing but the script is known -/
theorem at_start {P : Program} {w : World} {K : PySem.W.Frag} {f : FM} {H : Hp} {a : Addr} {ns : List Int} {S : Store} (sq : SqL K H a (ns.map V.int)) (good : f [.lst (ns.map D.int)] [] = .ok (.bl true) S) {E : XK} :
    spF P w K 1 f [.ref a] H (fun v _ => v = .bl true) E := by
  refine ⟨rfl, fun kf => ⟨⟨[], []⟩, [], [.lst (ns.map D.int)], ⟨rfl, (fun l b o h => by simp at h), (fun l l2 b o o2 h => by simp at h), (fun b hb => by cases hb), kf⟩, .cons (.lst sq ?_ (ints_rel ns)) .nil, ?_⟩⟩
  · rintro (m | ⟨l, o, h, _⟩)
    · cases m
    · simp at h
  · rw [good]
    intro ι2 H2 _ _ x rx
    cases rx
    rfl
section
variable {P : Program} {w : World} {K : PySem.W.Frag} {mg mb : Str → Option Value} {k : Nat} {fa a : Addr} {fd : FuncData} {x : Str} {f : FM} {s : Shared} {vs : List Value} {ns : List Int}
/-- the call, where H holds the script at most -/
theorem top_run {H : Hp} {obj : Obj} (kin : K.In s.heap) (globs : s.heap.Ns mainGlobals mg) (blts : s.heap.Ns builtinsNs mb) (bltv : ∀ x : Str, x ≠ "__name__" → mb x = bootBuiltins x) (nolim : s.heap.NoLimit) (gens : s.gens = #[])
    (there : s.heap.get? a = some obj) (noDict : ∀ es ep, obj.data ≠ .dict es ep) (known : ∀ b u, H b = some u → b = a ∧ K.lookup a = none ∧ u = .frz obj (.lst (ns.map V.int))) (held : HOk P w H s.heap) (sq : SqL K H a (ns.map V.int)) (room : Room k callerA)
    (F : ∀ base : Heap, K.In base → base.Ns mainGlobals mg → FnG P w K mg base k fa fd [x] (spF P w K 1 f)) (binds : ∀ (s : Shared) (u : Value), BindsTo s fd ⟨[u], []⟩ [(x, u)]) {S : Store} (good : f [.lst (ns.map D.int)] [] = .ok (.bl true) S) :
    codeAny (model P w) callerA (.call (.ref fa) ⟨[.ref a], []⟩) (fun r s2 => r = .ok (.ret (.bool true)) ∧ OldK s.heap s2.heap ∧ s2.os = s.os ∧ AllBare s2.gens) s := by
  have notA : ∀ {b : Addr} {o : Obj}, s.heap.get? b = some o → (o ≠ obj ∨ K.lookup b ≠ none) → H b = none := by
    intro b o e h
    cases q : H b with
    | none => rfl
    | some u =>
      obtain ⟨rfl, kn, _⟩ := known b u q
      rcases h with h | h
      · rw [there] at e; exact absurd (Option.some.inj e).symm h
      · exact absurd kn h
  have dictFree : ∀ {b : Addr} {m : Str → Option Value}, s.heap.Ns b m → (hidT s.heap H).Ns b m := by
    rintro b m ⟨o, es, ep, e, d, r⟩
    exact ⟨o, es, ep, hidT_get e (notA e (.inl fun z => noDict es ep (z ▸ d))), d, r⟩
  have kinB : K.In (hidT s.heap H) := fun b o e => hidT_get (kin b o e) (notA (kin b o e) (.inr (by rw [e]; exact fun z => nomatch z)))
  obtain ⟨mc, n1, n2⟩ := nolim
  have md : Mod K mg (hidT s.heap H) := ⟨kinB, dictFree globs, ⟨mb, dictFree blts, bltv⟩, ⟨mc, dictFree n1, n2⟩⟩
  have env : Env0 P w K mg (hidT s.heap H) callerA [] s H := ⟨rfl, md, fun b o e => of_hidT e, Nat.le_of_eq (hidT_size _ _), trivial, (fun b hb => by cases hb), held, .of_eq gens⟩
  refine codeAny_mono ((F _ kinB (dictFree globs)).does callerA [] s H ⟨[.ref a], []⟩ [.ref a] [.ref a] (fun v _ => v = .bl true) (fun _ _ _ => False) room rfl env (binds s (.ref a)) (.cons rfl .nil) (at_start sq good)) ?_
  rintro (e | fl) s2 hq
  · exact (show False from hq).elim
  · cases fl with
    | next => exact (show False from hq).elim
    | brk => exact (show False from hq).elim
    | cont => exact (show False from hq).elim
    | ret u =>
      obtain ⟨v, H2, os, bare, un, held2, rv, rfl⟩ := hq
      cases (show u = Value.bool true from rv)
      refine ⟨rfl, OldK.of_keep fun b o e => ?_, os, bare⟩
      cases q : H b with
      | none => exact un.keep b o e q (fun z => by cases z) (fun z => by cases z)
      | some u2 =>
        obtain ⟨rfl, _, rfl⟩ := known b u2 q
        rw [there] at e
        cases e
        exact (held2 b _ (un.frzs b _ _ q)).1
theorem top_call (kin : K.In s.heap) (globs : s.heap.Ns mainGlobals mg) (blts : s.heap.Ns builtinsNs mb) (bltv : ∀ x : Str, x ≠ "__name__" → mb x = bootBuiltins x) (nolim : s.heap.NoLimit) (gens : s.gens = #[])
    (there : s.heap.get? a = some { cls := .type "list", data := .seq vs.toArray }) (intv : PyProof.Rows.IntsAre vs ns) (len : ns.length ≤ sizeLine) (room : Room k callerA)
    (F : ∀ base : Heap, K.In base → base.Ns mainGlobals mg → FnG P w K mg base k fa fd [x] (spF P w K 1 f)) (binds : ∀ (s : Shared) (u : Value), BindsTo s fd ⟨[u], []⟩ [(x, u)]) {S : Store} (good : f [.lst (ns.map D.int)] [] = .ok (.bl true) S) :
    codeAny (model P w) callerA (.call (.ref fa) ⟨[.ref a], []⟩) (fun r s2 => r = .ok (.ret (.bool true)) ∧ OldK s.heap s2.heap ∧ s2.os = s.os ∧ AllBare s2.gens) s := by
  have rv : Vals (ns.map V.int) vs := vals_ints intv
  have same := intv.length
  have noDict : ∀ es ep, (Obj.data { cls := .type "list", data := .seq vs.toArray }) ≠ .dict es ep := fun es ep z => nomatch z
  cases kl : K.lookup a with
  | some o =>
    have e := kin a o kl
    rw [there] at e
    cases e
    refine top_run (H := fun _ => none) kin globs blts bltv nolim gens there noDict (fun b u z => nomatch z) (fun b u z => nomatch z) (.inr ⟨_, vs.toArray, _, kl, rfl, rfl, rfl, ?_, by simpa using rv⟩) room F binds good
    rw [List.size_toArray, same]
    exact len
  | none =>
    refine top_run (H := upd (fun _ => none) a (.frz { cls := .type "list", data := .seq vs.toArray } (.lst (ns.map V.int)))) kin globs blts bltv nolim gens there noDict (fun b u z => ?_) (fun b u z => ?_) (.inl (.inr ⟨_, upd_same⟩)) room F binds good
    · by_cases q : b = a
      · subst q; rw [upd_same] at z; cases z; exact ⟨rfl, kl, rfl⟩
      · rw [upd_ne q] at z; cases z
    · by_cases q : b = a
      · subst q; rw [upd_same] at z; cases z; exact ⟨there, by rw [List.length_map]; exact len, vs, _, rv, there⟩
      · rw [upd_ne q] at z; cases z
end
/-- the goal that the head leaves -/
theorem walk_mi {l : PySem.W.OpenLaw} {n k : Nat} {q : Program} {loose : List Str} {XP : (Str → Option Value) → Heap → Prop} {YP : World → Heap → Prop} {d : DefRec} {K : Params → PySem.W.Frag} {x : Str} {f : FM}
    (hn : l.most = some n) (hn2 : n ≤ sizeLine) (hdf : d.params.defaults = []) (room : Room k callerA) (hY : ∀ (w : World) (h : Heap), YP w h → (K w.params).In h)
    (F : ∀ (w : World) (mg : Str → Option Value) (fa : Addr) (h : Heap), (K w.params).In h → h.Ns mainGlobals mg → mg d.name = some (.ref fa) →
      ∃ fd : FuncData, (∀ (s : Shared) (u : Value), BindsTo s fd ⟨[u], []⟩ [(x, u)]) ∧ ∀ base : Heap, (K w.params).In base → base.Ns mainGlobals mg → FnG l.prog w (K w.params) mg base k fa fd [x] (spF l.prog w (K w.params) 1 f))
    (good : ∀ ns : List Int, ns.length ≤ n → ∃ S, f [.lst (ns.map D.int)] [] = .ok (.bl true) S) : PySem.W.WalkO q loose XP YP l.row.toRowW d [] (fun f vs => PySem.call f vs) := by
  refine Att.attach_call hn hdf fun w s₀ s₁ mg mb fa o pm cd doc a vs ns G Y ho hd hcd hmg hobj hints hlen hg => ?_
  obtain ⟨fd, binds, run⟩ := F w mg fa _ (hY w _ Y) G.T.g hmg
  obtain ⟨S, ok⟩ := good ns hlen
  exact top_call (hY w _ Y) G.T.g G.T.b G.T.builtins G.T.nolimit hg hobj hints (Nat.le_trans hlen hn2) room run binds ok
/-! ### what the top has left of a def -/
structure DefAt (K : PySem.W.Frag) (x : Str) (st : Stmt) : Prop where
  ex : ∃ (a : Addr) (fd : FuncData), Fun K x x st a fd ∧ PySem.W.nsIn K mainGlobals x = some (some (.ref a))
theorem DefAt.mk' {K : PySem.W.Frag} {x : Str} {st : Stmt} {a : Addr} {od an : Option Addr} {sl : Array (Option Value)} {oc kV dc pm cd ct : Value} (at_ : PySem.W.nsIn K mainGlobals x = some (some (.ref a)))
    (l : K.lookup a = some ⟨oc, od, .func (PySem.W.fnOf x x (defArgs st) (defBody st) (defScope st) .none kV dc pm an cd ct), sl⟩) (c : PySem.W.codeIn K cd x = true) (kp : PySem.W.keepIn K (.ref a) = true) : DefAt K x st := ⟨a, _, fun_mk l c kp, at_⟩
/-- a def by its body, from what the top has left -/
theorem fn_at {P : Program} {w : World} {K : PySem.W.Frag} {mg : Str → Option Value} {base h : Heap} {x : Str} {st : Stmt} {N ps : List Str} {k : Nat} {m : SM} (kin : K.In h) (G : h.Ns mainGlobals mg) (Df : DefAt K x st) (S : FnScope N ps (defScope st))
    (hb : ∀ (kV doc pm : Value) (an : Option Addr) (cdv ct : Value) (us : List Value), us.length = ps.length → bindArgs (PySem.W.fnOf x x (defArgs st) (defBody st) (defScope st) .none kV doc pm an cdv ct) ⟨us, []⟩ = pure (ps.zip us))
    (body : ∀ (X : Cx), Amb X (defScope st) (defScope st).names N k → X.prog = P → X.w = w → X.K = K → X.mg = mg → X.base = base → SSs X W0 (defBody st) m) : FnR P w K mg base x (k + 1) ps.length (runF N.length m) := by
  obtain ⟨a, fd, F, at_⟩ := Df.ex
  exact fn_ok F S (PySem.W.mg_of kin G at_) (F.binds hb) body
end Mi
set_option linter.all false
set_option maxRecDepth 100000
/-! Mi, part R: what the printed derivations are made of. -/
namespace Mi
open PySem L2
section
variable {X : Cx} {W : WE} {sc : Scope} {ow : List (Str × NameKind)} {N : List Str} {k : Nat}
variable {a b e o : Expr} {ma mb mo : EM} {pos apos p : Pos} {es : List Expr} {r : AM}
theorem sl_lc (A : Amb X sc ow N k) {elt tg iter : Expr} {ifs : List Expr} {scope : Scope} {pos : Pos} {it : AM} {g : GM} {t : TM} {e : EM} {st : List Nat} (own : List (Str × Nat)) (hi : SI X W tg iter it) (ok : blkC N sc scope own = true) (hvs : (st.all fun i => decide (i ∈ own.map (·.2))) = true) (hk : scope.kind = .function)
    (hg : ∀ s H C cl fp, Amb (blk X scope s H C cl fp) (relS scope sc) scope.names N k → SG (blk X scope s H C cl fp) W0 st tg g) (ht : ∀ s H C cl fp, Amb (blk X scope s H C cl fp) (relS scope sc) scope.names N k → STs (blk X scope s H C cl fp) W0 ifs t) (he : ∀ s H C cl fp, Amb (blk X scope s H C cl fp) (relS scope sc) scope.names N k → SE (blk X scope s H C cl fp) W0 elt e)
    (hs : ∀ x, foldedSetIterable iter X.env x = pure x := by intro _; rfl) : SL X W (.ListComp elt [⟨tg, iter, ifs, 0⟩] scope pos) (lComp (own.map (·.2)) it g t e) :=
  sl_comp A own hi ok hvs (fun s H C cl fp => hg s H C cl fp (amb_blk A hk s H C cl fp)) (fun s H C cl fp => ht s H C cl fp (amb_blk A hk s H C cl fp)) (fun s H C cl fp => he s H C cl fp (amb_blk A hk s H C cl fp)) hs
theorem ss_lcF (A : Amb X sc ow N k) {i : Nat} {y : Str} {py spos : Pos} {elt tg iter : Expr} {ifs : List Expr} {scope : Scope} {pos : Pos} {it : AM} {g : GM} {t : TM} {e : EM} {st : List Nat} (own : List (Str × Nat)) (h1 : (decide (N[i]? = some y) && decide (sc.names.lookup y = some .local)) = true)
    (hsw : swapsWith (.ListComp elt [⟨tg, iter, ifs, 0⟩] scope pos) (some (.Name y py)) spos.line (envC sc) = pure true) (hi : SI X W tg iter it) (ok : blkC N sc scope own = true) (hvs : (st.all fun i => decide (i ∈ own.map (·.2))) = true) (hk : scope.kind = .function)
    (hg : ∀ s H C cl fp, Amb (blk X scope s H C cl fp) (relS scope sc) scope.names N k → SG (blk X scope s H C cl fp) W0 st tg g) (ht : ∀ s H C cl fp, Amb (blk X scope s H C cl fp) (relS scope sc) scope.names N k → STs (blk X scope s H C cl fp) W0 ifs t) (he : ∀ s H C cl fp, Amb (blk X scope s H C cl fp) (relS scope sc) scope.names N k → SE (blk X scope s H C cl fp) W0 elt e)
    (hs : ∀ x, foldedSetIterable iter X.env x = pure x := by intro _; rfl) : SS X W (.Assign [.Name y py] (.ListComp elt [⟨tg, iter, ifs, 0⟩] scope pos) spos) (sAsg (eFrz (lComp (own.map (·.2)) it g t e)) (Mi.gName i)) :=
  ss_setLcF A own h1 hsw hi ok hvs (fun s H C cl fp => hg s H C cl fp (amb_blk A hk s H C cl fp)) (fun s H C cl fp => ht s H C cl fp (amb_blk A hk s H C cl fp)) (fun s H C cl fp => he s H C cl fp (amb_blk A hk s H C cl fp)) hs
theorem ss_lcN (A : Amb X sc ow N k) {i : Nat} {y : Str} {py spos : Pos} {elt tg iter : Expr} {ifs : List Expr} {scope : Scope} {pos : Pos} {it : AM} {g : GM} {t : TM} {e : EM} {st : List Nat} (own : List (Str × Nat)) (h1 : (decide (N[i]? = some y) && decide (sc.names.lookup y = some .local)) = true)
    (hsw : swapsWith (.ListComp elt [⟨tg, iter, ifs, 0⟩] scope pos) (some (.Name y py)) spos.line (envC sc) = pure true) (hi : SI X W tg iter it) (ok : blkC N sc scope own = true) (hvs : (st.all fun i => decide (i ∈ own.map (·.2))) = true) (hk : scope.kind = .function)
    (hg : ∀ s H C cl fp, Amb (blk X scope s H C cl fp) (relS scope sc) scope.names N k → SG (blk X scope s H C cl fp) W0 st tg g) (ht : ∀ s H C cl fp, Amb (blk X scope s H C cl fp) (relS scope sc) scope.names N k → STs (blk X scope s H C cl fp) W0 ifs t) (he : ∀ s H C cl fp, Amb (blk X scope s H C cl fp) (relS scope sc) scope.names N k → SE (blk X scope s H C cl fp) W0 elt e)
    (hs : ∀ x, foldedSetIterable iter X.env x = pure x := by intro _; rfl) : SS X W (.Assign [.Name y py] (.ListComp elt [⟨tg, iter, ifs, 0⟩] scope pos) spos) (sAsg (eNew (lComp (own.map (·.2)) it g t e)) (Mi.gName i)) :=
  ss_setLcN A own h1 hsw hi ok hvs (fun s H C cl fp => hg s H C cl fp (amb_blk A hk s H C cl fp)) (fun s H C cl fp => ht s H C cl fp (amb_blk A hk s H C cl fp)) (fun s H C cl fp => he s H C cl fp (amb_blk A hk s H C cl fp)) hs
/-- a call that may leave new things -/
def callF (f : FM) (ds : List D) (S : Store) : Res D := match f ds S with
  | .ok d S1 => .ok d S1
  | _ => .bad
theorem cf_F : CfOk X W callF := fun f ds vs ι S H σ Q rs rl o => ⟨ι, S, ds, rs, rl, by
  unfold callF at o
  cases e : f ds S with
  | ok d S1 => rw [e] at o; exact o
  | ex e1 S1 => rw [e] at o; exact o.elim
  | bad => rw [e] at o; exact o.elim⟩
/-- d.setdefault(k, v), keys ints and texts -/
def setdD (d : D) (ds : List D) (S : Store) : Res D := match d, ds with
  | .loc l, [y, v] => (match S[l]? with
    | some (some (.dct false ks vs)) => (match toKey y with
      | some k => (match dGet ks vs (nk k) with
        | some u => .ok u S
        | none => if vs.length < sizeLine then .ok v (S.set l (some (.dct false (ks ++ [y]) (vs ++ [v])))) else .bad)
      | none => .bad)
    | _ => .bad)
  | _, _ => .bad
def rSetdQ : V → List V → Hp → VK → Prop := fun x xs H Q => ∃ a kvs k v, x = V.ref a ∧ xs = [kV k, v] ∧ H a = some (.dK kvs) ∧ (∀ u, valV kvs k = some u → Q u H) ∧ (valV kvs k = none → kvs.length < sizeLine ∧ Q v (upd H a (.dK (putK kvs k v))))
theorem mt_setd : MtR X "dict.setdefault" rSetdQ := by
  intro pins s σ H x xs v us Q I rx rxs h
  obtain ⟨a, kvs, k, dv, rfl, rfl, ea, w1, w2⟩ := h
  cases (show v = Value.ref a from rx)
  cases rxs with
  | cons rk rest =>
    cases rest with
    | cons rv rest =>
      cases rest
      rename_i uk uv
      obtain ⟨z, hd, vs0, rel, dd⟩ := dk_of I.hok ea
      obtain ⟨o, es, ep, eo, exd, hdat, _⟩ := id dd
      have hz : vs0.length ≤ sizeLine := by rw [← rel.length]; exact z
      refine call_meetsIn PySem.F.slot_dict_setdefault ⟨_, eo, exd.1⟩ PySem.F.entry_dict_setdefault (PySem.F.args_dict_setdefault_3 _ _ _) (kt_meets_setdefault (mixKind X.prog X.w) a (kV_is rk) hd uv) ⟨vs0, dd, hz, fun u hu => ?_, fun hn h2 dd2 hs => ?_⟩
      · have rr := rel.val k
        rw [hu] at rr
        cases hv : valV kvs k with
        | none => rw [hv] at rr; exact rr.elim
        | some y => rw [hv] at rr; exact ⟨y, H, I.tok _, rr, w1 y hv⟩
      · have rr := rel.val k
        rw [hn] at rr
        cases hv : valV kvs k with
        | some y => rw [hv] at rr; exact rr.elim
        | none =>
          obtain ⟨small, q⟩ := w2 hv
          have room : (putK kvs k dv).length ≤ sizeLine := by have := length_putK kvs k dv; omega
          refine ⟨dv, _, d_write (t' := s.toks + 1) I (by rw [ea]; exact True.intro) hs ?_ (dk_new room hd (rel.put k rv) dd2), rv, q⟩
          obtain ⟨q, _, _, hq, _⟩ := dd2
          exact ⟨q, hq⟩
theorem ok_setd : MOk X W rSetdQ setdD := by
  intro σ ι S H x xs d ds Q rs rx rxs h
  unfold setdD at h
  cases d with
  | loc l =>
    match ds, rxs, h with
    | [y, v], .cons (x := yy) ry (.cons (x := vv) rv .nil), h =>
      dsimp only at h
      cases z : S[l]? with
      | none => rw [z] at h; exact h.elim
      | some oo =>
        rw [z] at h
        cases oo with
        | none => exact h.elim
        | some ob =>
          cases ob with
          | lst _ => exact h.elim
          | dct bb ks vs =>
            cases bb with
            | true => exact h.elim
            | false =>
              dsimp only at h
              cases zk : toKey y with
              | none => rw [zk] at h; exact h.elim
              | some k =>
                rw [zk] at h
                dsimp only at h
                obtain ⟨a, rfl, ha, obr⟩ := loc_dct rs rx z
                have ky := toKey_rel zk ry
                have kd := (toKey_key zk).2
                cases obr with
                | dctK e nd rl =>
                  rename_i kvs
                  obtain ⟨g1, g2⟩ := dGet_k rl k
                  have hlen : kvs.length = vs.length := by have := RelL.length rl; rwa [List.length_map] at this
                  cases zg : dGet (kvs.map fun p => keyD p.1) vs (nk k) with
                  | some u =>
                    rw [zg] at h
                    obtain ⟨w, hw, rw2⟩ := g1 u zg
                    refine ⟨a, kvs, k, _, rfl, by rw [ky], e, fun t ht _ => ?_, fun hn => ?_⟩
                    · rw [hw] at ht; cases ht
                      exact Out.now h rs _ rw2
                    · rw [hw] at hn; cases hn
                  | none =>
                    rw [zg] at h
                    dsimp only at h
                    have hn := g2 zg
                    by_cases hl : vs.length < sizeLine
                    · rw [if_pos hl] at h
                      refine ⟨a, kvs, k, _, rfl, by rw [ky], e, fun t ht => ?_, fun _ => ⟨by omega, fun _ => ?_⟩⟩
                      · rw [hn] at ht; cases ht
                      · have r2 : RelL X.prog X.w X.K ι S H ((kvs ++ [(k, vv)]).map (·.2)) (vs ++ [v]) := by
                          rw [List.map_append]
                          exact rl.append (.cons rv .nil)
                        have nd2 : ((kvs ++ [(k, vv)]).map (·.1)).Nodup := by
                          rw [List.map_append]
                          exact nodup_snoc nd (valV_none hn)
                        rw [putK_new vv hn]
                        obtain ⟨st, rs2⟩ := RS.write (o := .dK (kvs ++ [(k, vv)])) (ob' := .dct false ((kvs.map fun p => keyD p.1) ++ [y]) (vs ++ [v])) rs ha z fun st mk => by
                          have q : ObR X.prog X.w X.K ι (S.set l (some (.dct false ((kvs.map fun p => keyD p.1) ++ [y]) (vs ++ [v])))) (upd H a (.dK (kvs ++ [(k, vv)]))) a (.dct false ((kvs ++ [(k, vv)]).map fun p => keyD p.1) (vs ++ [v])) := .dctK upd_same nd2 (RelL.mono' st mk _ _ r2)
                          rw [List.map_append] at q
                          simp only [List.map_cons, List.map_nil, kd] at q
                          exact q
                        exact h ι _ st rs2 _ (Rel.mono st rs2 _ _ rv)
                    · rw [if_neg hl] at h; exact h.elim
    | [], .nil, h => exact h.elim
    | [_], .cons _ .nil, h => exact h.elim
    | _ :: _ :: _ :: _, _, h => exact h.elim
  | _ => exact h.elim
theorem se_setd (A : Amb X sc ow N k) (ho : SE X W o mo) (ha : SA X W [a, b] r) (h1 : attributeBase o "setdefault" X.env (eval o X.env) = eval o X.env := by rfl) (h3 : (apos.endLine == pos.line) = true := by rfl) (h4 : starEach [a, b] X.env = [(false, eval a X.env), (false, eval b X.env)] := by rfl) (h5 : starEach [b] X.env = [(false, eval b X.env)] := by rfl) :
    SE X W (.Call (.Attribute o "setdefault" apos) [a, b] [] pos) (eMth isDK setdD mo r) :=
  se_mth PySem.F.plainAttrs_dict PySem.F.slot_dict_setdefault PySem.F.type_dict_setdefault mt_setd isDK_ty ok_setd ho ha (h1 := h1) (h2 := by rw [h4]; rfl) (h3 := h3) (h4 := by rw [h4, h5]) (h5 := by rw [h5]; rfl)
theorem Amb.units64 (A : Amb X sc ow N k) : X.A.units + 64 < cLine := by have := A.units; omega
end
end Mi
set_option linter.all false
set_option maxRecDepth 100000
/-! Mi, part S: walks over dicts; sets that are told at once. -/
namespace Mi
open PySem L2
section
variable {P : Program} {w : World} {K : PySem.W.Frag} {ι : Pl} {S : Store} {H : Hp}
theorem it_keys {a : Addr} {o : Obj} {kvs : List (Key × V)} (e : H a = some (.frz o (.dK kvs))) (nm : ¬ Mu ι S a) : ItR P w K ι S H (Itk a o kvs) (kvs.map fun p => keyD p.1) where
  turns := by
    intro i ι2 S2 H2 st rs2
    obtain ⟨e2, _⟩ := st.keep _ _ e nm
    refine ⟨fun d hd => ?_, fun hl => ⟨e2, by rw [hl, List.length_map]; exact Nat.le_refl _⟩⟩
    rw [List.getElem?_map] at hd
    cases z : kvs[i]? with
    | none => rw [z] at hd; cases hd
    | some p =>
      rw [z] at hd
      cases hd
      refine ⟨⟨e2, (List.getElem?_eq_some_iff.mp z).1⟩, ?_⟩
      rintro x H3 ⟨rfl, k, v, hk, rfl⟩ kf
      rw [z] at hk
      cases hk
      refine ⟨.refl, rs2, ?_⟩
      cases k with
      | inl i => exact .int i
      | inr x => exact .str x
  first := by
    intro H2 kp
    have e2 := kp _ _ e
    refine ⟨fun hn => ⟨e2, ?_⟩, fun hn => ⟨e2, ?_⟩, ?_⟩
    · cases kvs with
      | nil => exact absurd rfl hn
      | cons _ _ => exact Nat.succ_pos _
    · have := List.map_eq_nil_iff.mp hn
      subst this
      exact Nat.le_refl _
    · rintro x H3 ⟨rfl, _⟩ b u z
      exact z
/-- the keys of a locked dict of tuples -/
def Itn (P : Program) (w : World) (a : Addr) (o : Obj) (kvs : List (NestedKey × Addr × V)) : It :=
  ⟨fun i H => H a = some (.frz o (NDO P w a kvs)) ∧ i < kvs.length, fun i H x H' => H' = H ∧ ∃ p, kvs[i]? = some p ∧ x = .ref p.2.1, fun i H => H a = some (.frz o (NDO P w a kvs)) ∧ kvs.length ≤ i⟩
theorem it_keysN {a : Addr} {o : Obj} {kvs : List (NestedKey × Addr × V)} {ks : List D} (e : H a = some (.frz o (NDO P w a kvs))) (nm : ¬ Mu ι S a) (r : RelL P w K ι S H (kvs.map fun p => V.ref p.2.1) ks) : ItR P w K ι S H (Itn P w a o kvs) ks where
  turns := by
    intro i ι2 S2 H2 st rs2
    obtain ⟨e2, _⟩ := st.keep _ _ e nm
    have r2 := RelL.monoW st rs2 _ _ r
    have hl := RelL.length r
    rw [List.length_map] at hl
    refine ⟨fun d hd => ?_, fun h => ⟨e2, by omega⟩⟩
    obtain ⟨v, hv, rv⟩ := r2.get hd
    rw [List.getElem?_map] at hv
    cases z : kvs[i]? with
    | none => rw [z] at hv; cases hv
    | some p =>
      rw [z] at hv
      cases hv
      refine ⟨⟨e2, (List.getElem?_eq_some_iff.mp z).1⟩, ?_⟩
      rintro x H3 ⟨rfl, q, hk, rfl⟩ kf
      rw [z] at hk
      cases hk
      exact ⟨.refl, rs2, rv⟩
  first := by
    intro H2 kp
    have e2 := kp _ _ e
    have hl := RelL.length r
    rw [List.length_map] at hl
    refine ⟨fun hn => ⟨e2, ?_⟩, fun hn => ⟨e2, ?_⟩, ?_⟩
    · cases ks with
      | nil => exact absurd rfl hn
      | cons _ _ => simp at hl; omega
    · subst hn
      simp at hl
      simp [hl]
    · rintro x H3 ⟨rfl, _⟩ b u z
      exact z
end
theorem nd_at {X : Cx} {pins : List (Addr × Obj)} {σ : L2.St} {H : Hp} {s : Shared} {a : Addr} {o : Obj} {kvs : List (NestedKey × Addr × V)} (I : Inv X pins σ H s) (h : H a = some (.frz o (NDO X.prog X.w a kvs))) :
    (a == sysModules) = false ∧ s.heap.get? a = some o ∧ o.ExactDict ∧ ∃ (es : Array DictEntry) (ep : Nat), o.data = .dict es ep ∧ es.size = kvs.length ∧ ∀ (i : Nat) (p : NestedKey × Addr × V), kvs[i]? = some p → ∃ en : DictEntry, es[i]? = some en ∧ en.key = .ref p.2.1 := by
  obtain ⟨ga, ⟨ns, o2, es, ep, xs, h1, h2, h3, h4, pr⟩, _⟩ := I.hok a _ h
  rw [ga] at h1
  cases h1
  refine ⟨ns, ga, h2, es, ep, h3, ?_, fun i p hp => ?_⟩
  · have l1 : es.size = xs.length := size_of_entries h4
    have l2 : kvs.length = xs.length := Paired.length pr
    omega
  · obtain ⟨q, hq, _, e2, _⟩ := paired_get pr hp
    have z := entry_at h4 i
    rw [hq] at z
    exact ⟨_, z, by show Value.ref q.2.1 = _; rw [e2]⟩
theorem turn_keysN {P : Program} {w : World} {K : PySem.W.Frag} {tg : Expr} {d : Addr} {o : Obj} {es : Array DictEntry} {ep : Nat} {kvs : List (NestedKey × Addr × V)} (it : Addr) (hod : o.data = .dict es ep) :
    Turn P w K tg (Itn P w d o kvs) [it] it (fun i h => h.IsKeyIter it d i kvs.length ep) where
  mem := List.mem_cons_self
  obj := by
    rintro i h ⟨oi, e, c, dd⟩ b hb
    cases List.mem_singleton.mp hb
    exact ⟨oi, e, fun v z => by rw [dd] at z; cases z⟩
  keep := fun i h h2 st k => st.at fun oi e => k it List.mem_cons_self oi e
  item := by
    rintro X rfl rfl rfl calm i pins s σ H E I free st ⟨hd, hi⟩
    obtain ⟨f0, f1, f2, f3, f4, f5⟩ := free it List.mem_cons_self
    obtain ⟨ns, at_, ex, es2, ep2, hdt, hsz, ent⟩ := nd_at I hd
    obtain ⟨rfl, rfl⟩ := dict_ep hod hdt
    obtain ⟨p, hp⟩ : ∃ p, kvs[i]? = some p := ⟨kvs[i], List.getElem?_eq_getElem hi⟩
    obtain ⟨en, hen, hkey⟩ := ent i p hp
    refine next_key_item st at_ hdt hsz hen fun h2 st2 sb => ?_
    have I2 : Inv X pins σ H { s with heap := h2 } := I.turned (t' := s.toks) (fun b ob hb e => (sb.2 b hb).trans e) f0 f1 f3 f4 f5
    obtain ⟨oi, e, c, dd⟩ := id st2
    exact ⟨en.key, rfl, go_of (s := { s with heap := h2 }) e c dd (by decide) ⟨.ref p.2.1, H, I2, hkey, ⟨rfl, p, hp, rfl⟩, st2, fun b hb => (free b hb).1⟩⟩
  done := by
    rintro X rfl rfl rfl calm i pins s σ H E I free st ⟨hd, hi⟩
    obtain ⟨f0, f1, f2, f3, f4, f5⟩ := free it List.mem_cons_self
    obtain ⟨ns, at_, ex, es2, ep2, hdt, hsz, ent⟩ := nd_at I hd
    obtain ⟨rfl, rfl⟩ := dict_ep hod hdt
    exact next_key_end (I.ok.hd calm) st at_ hdt hsz hi fun h2 eb => ⟨rfl, I.turned (t' := s.toks) (fun b ob hb e => eb b ob hb e) f0 f1 f3 f4 f5⟩
  self := fun A i s Q E st h => wpAny_pyIter_keyiter st h
section
variable {X : Cx} {W : WE} {sc : Scope} {ow : List (Str × NameKind)} {N : List Str} {k : Nat}
variable {a b e o tg : Expr} {ma mb mo : EM} {pos apos p : Pos} {es : List Expr} {r : AM}
def keysOf (d : D) (S : Store) : Res (List D) := match d with
  | .dct _ ks _ => .ok ks S
  | _ => .bad
def iDict (m : EM) : AM := fun ρ S => (m ρ S).bind keysOf
theorem si_dict (A : Amb X sc ow N k) (ha : SE X W e ma) : SI X W tg e (iDict ma) := by
  refine ⟨fun pins s σ H R I q => ?_⟩
  obtain ⟨ι, S, ρ, rs, er, o⟩ := q (invKF I)
  refine thn (ha.run pins s σ H (fun x H1 => ∃ ι1 S1 dx, RS X.prog X.w X.K ι1 S1 H1 ∧ Rel X.prog X.w X.K ι1 S1 H1 x dx ∧ Out X.prog X.w X.K W σ ι1 S1 H1 (keysOf dx S1) fun ι' S' H' ds => ∀ J, ItR X.prog X.w X.K ι' S' H' J ds → R J H') I
    (fun _ => ⟨ι, S, ρ, rs, er, Out.mono (Out.bind o) fun ι1 S1 H1 dx st1 rs1 h1 x rx => ⟨ι1, S1, dx, rs1, rx, h1⟩⟩)) ?_
  rintro v s1 ⟨x, H1, I1, r1, ι1, S1, dx, rs1, rx, h1⟩
  cases dx with
  | dct bb ks vs =>
    cases rx with
    | dctK eh nm nd rl =>
      cases r1
      obtain ⟨hs, at_, ex, es2, ep, vs2, hdt, hsz, kv, hm⟩ := I1.frzK eh
      refine iter_keys hs at_ ex hdt (pi_one (tk := s1.toks) I1 _ (turn_keys _ hdt) ⟨_, Heap.get?_push_size _ rfl, rfl, ?_⟩ (Out.now h1 rs1 _ (it_keys eh nm)))
      rw [hsz]
      rfl
    | dctN eh nm nd q g1 g2 =>
      cases r1
      obtain ⟨ns, at_, ex, es2, ep, hdt, hsz, ent⟩ := nd_at I1 eh
      refine iter_keys ns at_ ex hdt (pi_one (tk := s1.toks) I1 _ (turn_keysN _ hdt) ⟨_, Heap.get?_push_size _ rfl, rfl, ?_⟩ (Out.now h1 rs1 _ (it_keysN eh nm g1)))
      rw [hsz]
      rfl
  | _ => exact h1.elim
/-! ### len(set(xs)), xs ints -/
def intsOf : List D → Option (List Int)
  | [] => some []
  | .int i :: ds => (intsOf ds).map (i :: ·)
  | _ => none
def ddup (ns : List Int) : List Int := PyProof.Rows.firstMet (fun i => ns.getD i 0) ns.length
def lenSet (d : D) (S : Store) : Res D := match rd d S with
  | some (.lst l) => (match intsOf l with
    | some ns => if ns.length + 1 < 4096 then .ok (.int ((ddup ns).length : Nat)) S else .bad
    | none => .bad)
  | _ => .bad
theorem intsOf_rel {P : Program} {w : World} {K : PySem.W.Frag} {ι : Pl} {S : Store} {H : Hp} : ∀ {ds : List D} {xs : List V} {ns : List Int}, intsOf ds = some ns → RelL P w K ι S H xs ds → xs = ns.map V.int ∧ ds.length = ns.length
  | [], _, _, h, r => by cases r; cases h; exact ⟨rfl, rfl⟩
  | .int i :: ds, _, _, h, r => by
    cases r with
    | cons r1 r2 =>
      cases r1
      simp only [intsOf] at h
      cases z : intsOf ds with
      | none => rw [z] at h; cases h
      | some ns =>
        rw [z] at h
        cases h
        obtain ⟨h1, h2⟩ := intsOf_rel z r2
        exact ⟨by rw [h1]; rfl, by simp [h2]⟩
  | .non :: _, _, _, h, _ => by cases h
  | .bl _ :: _, _, _, h, _ => by cases h
  | .str _ :: _, _, _, h, _ => by cases h
  | .tup _ :: _, _, _, h, _ => by cases h
  | .lst _ :: _, _, _, h, _ => by cases h
  | .dct _ _ _ :: _, _, _, h, _ => by cases h
  | .loc _ :: _, _, _, h, _ => by cases h
  | .rng _ _ :: _, _, _, h, _ => by cases h
  | .clo _ _ :: _, _, _, h, _ => by cases h
def tLenSet (K : PySem.W.Frag) (ta : TE) : TE := fun σ H Q => ta σ H fun x H1 => ∃ (l : Addr) (ns : List Int), x = .ref l ∧ SqL K H1 l (ns.map V.int) ∧ ns.length + 1 < 4096 ∧ Q (.int ((ddup ns).length : Nat)) H1
theorem pe_lenSet {q p2 : Pos} {ta : TE} (calm : X.calm = true) (hg : Gl X "len") (hm : X.mg "len" = none) (hg2 : Gl X "set") (hm2 : X.mg "set" = none) (ha : PE X a ta)
    (na : starEach [a] X.env = (false, eval a X.env) :: starEach [] X.env) : PE X (.Call (.Name "len" p) [.Call (.Name "set" p2) [a] [] q] [] pos) (tLenSet X.K ta) := by
  refine ⟨fun pins s σ H Q I h => PyProof.Rows.Call_ (ld_blt I hg hm PySem.boot_len (PyProof.Rows.callWith_builtin1 (PyProof.Rows.args_cons ?_ rfl) rfl rfl))⟩
  refine PyProof.Rows.Call_ (ld_blt I hg2 hm2 PyProof.Rows.boot_set (PyProof.Rows.callWith_type1 (PyProof.Rows.args_cons (thn (ha.run pins s σ H _ I h) ?_) na) na rfl))
  rintro v s1 ⟨x, H1, I1, r1, l, ns, rfl, hs, small, done⟩
  refine PyProof.Rows.args_nil ?_
  cases (show v = Value.ref l from r1)
  obtain ⟨its, rv, pl, _⟩ := I1.list hs
  have count : its.toArray.size = ns.length := by rw [List.size_toArray, ← rv.length, List.length_map]
  refine PySem.call_set_list (I1.ok.hd calm) pl.isList (ns := ns) (by simpa using rv.ints) (by unfold scanBound; omega) fun h2 tk isSet keep => ?_
  rw [count] at isSet
  refine PyProof.Rows.args_nil ?_
  obtain ⟨o, es, ep, t, ho, hex, hd, _, _, _, hf, hn⟩ := isSet
  have I2 : Inv X pins σ H1 { s1 with heap := h2, toks := tk } := I1.kept fun b o e => keep b o (Heap.lt_size e) e
  have le : (ddup ns).length ≤ ns.length := PyProof.Rows.firstMet_length_le _ _
  have hn2 : es.size = (ddup ns).length := hn
  refine call_len_set ho hex hd hf (by rw [hn2]; omega) ⟨.int ((ddup ns).length : Nat), H1, I2.tok _, ⟨_, by rw [hn2]⟩, done⟩
theorem se_lenSet {q p2 : Pos} (A : Amb X sc ow N k) (hm : X.mg "len" = none) (hg : glB sc "len" = true) (hm2 : X.mg "set" = none) (hg2 : glB sc "set" = true) (ha : SE X W a ma) (na : starEach [a] X.env = (false, eval a X.env) :: starEach [] X.env := by rfl) :
    SE X W (.Call (.Name "len" p) [.Call (.Name "set" p2) [a] [] q] [] pos) (eOp1 lenSet ma) := by
  refine PE.use (pe_lenSet A.calm (gl_of A hg) hm (gl_of A hg2) hm2 ha na) fun σ H Q kf q => ?_
  obtain ⟨ι, S, ρ, rs, er, h⟩ := q kf
  refine fun _ => ⟨ι, S, ρ, rs, er, Out.mono (Out.bind h) fun ι1 S1 H1 dx st1 rs1 h1 x rx => ?_⟩
  unfold lenSet at h1
  cases e1 : rd dx S1 with
  | none => rw [e1] at h1; exact h1.elim
  | some d1 =>
    rw [e1] at h1
    have v1 := vw_of rs1 rx e1
    cases d1 with
    | lst l =>
      dsimp only at h1
      cases e2 : intsOf l with
      | none => rw [e2] at h1; exact h1.elim
      | some ns =>
        rw [e2] at h1
        dsimp only at h1
        by_cases z : ns.length + 1 < 4096
        · rw [if_pos z] at h1
          cases v1 with
          | oth _ no => exact no.elim
          | lst s1 r1 =>
            obtain ⟨q1, q2⟩ := intsOf_rel e2 r1
            subst q1
            exact ⟨_, ns, rfl, s1, z, fun _ => Out.now h1 rs1 _ (.int _)⟩
        · rw [if_neg z] at h1; exact h1.elim
    | _ => exact h1.elim
end
/-! ### sorted(set(xs)), xs pairs of small ints -/
def plt (p q : Int × Int) : Prop := p.1 < q.1 ∨ (p.1 = q.1 ∧ p.2 < q.2)
theorem sorted_ext {α : Type} {lt : α → α → Prop} (irr : ∀ a, ¬ lt a a) (asy : ∀ a b, lt a b → ¬ lt b a) : ∀ {l m : List α}, l.Pairwise lt → m.Pairwise lt → (∀ x, x ∈ l ↔ x ∈ m) → l = m
  | [], [], _, _, _ => rfl
  | [], b :: m, _, _, h => absurd ((h b).mpr List.mem_cons_self) (by simp)
  | a :: l, [], _, _, h => absurd ((h a).mp List.mem_cons_self) (by simp)
  | a :: l, b :: m, h1, h2, h => by
    obtain ⟨p1, p2⟩ := List.pairwise_cons.mp h1
    obtain ⟨q1, q2⟩ := List.pairwise_cons.mp h2
    have e : a = b := by
      rcases List.mem_cons.mp ((h a).mp List.mem_cons_self) with e | e
      · exact e
      · rcases List.mem_cons.mp ((h b).mpr List.mem_cons_self) with e2 | e2
        · exact e2.symm
        · exact absurd (q1 a e) (asy a b (p1 b e2))
    subst e
    congr 1
    refine sorted_ext irr asy p2 q2 fun x => ⟨fun hx => ?_, fun hx => ?_⟩
    · rcases List.mem_cons.mp ((h x).mp (List.mem_cons_of_mem _ hx)) with e | e
      · subst e; exact absurd (p1 x hx) (irr x)
      · exact e
    · rcases List.mem_cons.mp ((h x).mpr (List.mem_cons_of_mem _ hx)) with e | e
      · subst e; exact absurd (q1 x hx) (irr x)
      · exact e
def grid : List (Int × Int) := (List.range 64).flatMap fun (x : Nat) => (List.range 64).map fun (y : Nat) => (((x : Nat) : Int), ((y : Nat) : Int))
/-- each once, ascending -/
def canon (ps : List (Int × Int)) : List (Int × Int) := grid.filter fun q => decide (q ∈ ps)
theorem grid_sorted : grid.Pairwise plt := by
  unfold grid
  rw [List.pairwise_flatMap]
  refine ⟨fun x _ => ?_, ?_⟩
  · rw [List.pairwise_map]
    exact List.pairwise_lt_range.imp fun h => Or.inr ⟨rfl, Int.ofNat_lt.mpr h⟩
  · refine List.pairwise_lt_range.imp ?_
    intro a b h p hp q hq
    obtain ⟨y, _, rfl⟩ := List.mem_map.mp hp
    obtain ⟨z, _, rfl⟩ := List.mem_map.mp hq
    exact Or.inl (Int.ofNat_lt.mpr h)
theorem mem_grid {p : Int × Int} : p ∈ grid ↔ 0 ≤ p.1 ∧ p.1 < 64 ∧ 0 ≤ p.2 ∧ p.2 < 64 := by
  unfold grid
  simp only [List.mem_flatMap, List.mem_map, List.mem_range]
  constructor
  · rintro ⟨x, hx, y, hy, rfl⟩
    show 0 ≤ (x : Int) ∧ (x : Int) < 64 ∧ 0 ≤ (y : Int) ∧ (y : Int) < 64
    omega
  · rintro ⟨h1, h2, h3, h4⟩
    refine ⟨p.1.toNat, by omega, p.2.toNat, by omega, Prod.ext ?_ ?_⟩
    · show ((p.1.toNat : Nat) : Int) = p.1
      omega
    · show ((p.2.toNat : Nat) : Int) = p.2
      omega
theorem canon_sorted (ps : List (Int × Int)) : (canon ps).Pairwise plt := grid_sorted.filter _
theorem mem_canon {ps : List (Int × Int)} (hb : ∀ p ∈ ps, 0 ≤ p.1 ∧ p.1 < 64 ∧ 0 ≤ p.2 ∧ p.2 < 64) {p : Int × Int} : p ∈ canon ps ↔ p ∈ ps := by
  unfold canon
  rw [List.mem_filter, decide_eq_true_eq]
  exact ⟨fun h => h.2, fun h => ⟨mem_grid.mpr (hb p h), h⟩⟩
def pairD (p : Int × Int) : D := .tup [.int p.1, .int p.2]
def pairOf : D → Option (Int × Int)
  | .tup [.int x, .int y] => if 0 ≤ x ∧ x < 64 ∧ 0 ≤ y ∧ y < 64 then some (x, y) else none
  | _ => none
theorem pairOf_eq {d : D} {p : Int × Int} (h : pairOf d = some p) : d = pairD p ∧ 0 ≤ p.1 ∧ p.1 < 64 ∧ 0 ≤ p.2 ∧ p.2 < 64 := by
  unfold pairOf at h
  split at h
  · split at h
    · rename_i hb
      cases h
      exact ⟨rfl, hb⟩
    · cases h
  · cases h
def pairsOf : List D → Option (List (Int × Int))
  | [] => some []
  | d :: ds => match pairOf d, pairsOf ds with
    | some p, some ps => some (p :: ps)
    | _, _ => none
def sortSet (d : D) (S : Store) : Res (List D) := match rd d S with
  | some (.lst l) => (match pairsOf l with
    | some ps => if ps.length < 64 then .ok ((canon ps).map pairD) S else .bad
    | none => .bad)
  | _ => .bad
def lOp1 (f : D → Store → Res (List D)) (m : EM) : AM := fun ρ S => (m ρ S).bind f
theorem pairs_rel {P : Program} {w : World} {K : PySem.W.Frag} {ι : Pl} {S : Store} {H : Hp} : ∀ {ds : List D} {xs : List V} {ps : List (Int × Int)}, pairsOf ds = some ps → RelL P w K ι S H xs ds →
    ∃ ks : List (Addr × Int × Int), xs = ks.map (fun k => V.ref k.1) ∧ ks.map (·.2) = ps ∧ ∀ k ∈ ks, Rel P w K ι S H (.ref k.1) (pairD k.2) ∧ H k.1 = some (.tup [.int k.2.1, .int k.2.2]) ∧ 0 ≤ k.2.1 ∧ k.2.1 < 64 ∧ 0 ≤ k.2.2 ∧ k.2.2 < 64
  | [], _, _, h, r => by cases r; cases h; exact ⟨[], rfl, rfl, fun k hk => by cases hk⟩
  | d :: ds, _, _, h, r => by
    cases r with
    | cons r1 r2 =>
      simp only [pairsOf] at h
      cases z1 : pairOf d with
      | none => rw [z1] at h; cases h
      | some p =>
        cases z2 : pairsOf ds with
        | none => rw [z1, z2] at h; cases h
        | some ps =>
          rw [z1, z2] at h
          cases h
          obtain ⟨e, hb⟩ := pairOf_eq z1
          subst e
          obtain ⟨ks, h1, h2, h3⟩ := pairs_rel z2 r2
          have r1' := r1
          cases r1 with
          | tup e nm rl =>
            cases rl with
            | cons ra rl =>
              cases rl with
              | cons rb rl =>
                cases rl
                cases ra
                cases rb
                rename_i a
                refine ⟨(a, p) :: ks, by simp [h1], by simp [h2], fun k hk => ?_⟩
                rcases List.mem_cons.mp hk with rfl | hk
                · exact ⟨r1', e, hb⟩
                · exact h3 k hk
section
variable {X : Cx} {W : WE} {sc : Scope} {ow : List (Str × NameKind)} {N : List Str} {k : Nat}
variable {a b e o tg : Expr} {ma mb mo : EM} {pos apos p : Pos} {es : List Expr} {r : AM}
theorem sl_sortSet {q p2 : Pos} (A : Amb X sc ow N k) (hm : X.mg "sorted" = none) (hg : glB sc "sorted" = true) (hm2 : X.mg "set" = none) (hg2 : glB sc "set" = true) (ha : SE X W a ma) (na : starEach [a] X.env = [(false, eval a X.env)] := by rfl)
    (nb : starEach [.Call (.Name "set" p2) [a] [] q] X.env = [(false, eval (.Call (.Name "set" p2) [a] [] q) X.env)] := by rfl) :
    SL X W (.Call (.Name "sorted" p) [.Call (.Name "set" p2) [a] [] q] [] pos) (lOp1 sortSet ma) := by
  refine PE.use (pe_callB (cr_sortedT A.calm) (gl_of A hg) hm (by decide +kernel) (pa_cons (pe_callTy (cr_setOfT A.calm (by have := A.units; omega)) (gl_of A hg2) hm2 (by decide +kernel) (pa_cons ha pa_nil na) (he := na) (hpl := rfl)) pa_nil nb) (he := nb) (hpl := rfl)) fun σ H Q kf q => ?_
  obtain ⟨ι, S, ρ, rs, er, h⟩ := q kf
  refine fun _ => ⟨ι, S, ρ, rs, er, Out.mono (Out.bind h) fun ι1 S1 H1 dx st1 rs1 h1 x rx => ?_⟩
  unfold sortSet at h1
  cases e1 : rd dx S1 with
  | none => rw [e1] at h1; exact h1.elim
  | some d1 =>
    rw [e1] at h1
    have v1 := vw_of rs1 rx e1
    cases d1 with
    | lst l =>
      dsimp only at h1
      cases e2 : pairsOf l with
      | none => rw [e2] at h1; exact h1.elim
      | some ps =>
        rw [e2] at h1
        dsimp only at h1
        by_cases z : ps.length < 64
        · rw [if_pos z] at h1
          cases v1 with
          | oth _ no => exact no.elim
          | lst s1 r1 =>
            obtain ⟨ks, rfl, hp, hk⟩ := pairs_rel e2 r1
            have hb : ∀ p ∈ ps, 0 ≤ p.1 ∧ p.1 < 64 ∧ 0 ≤ p.2 ∧ p.2 < 64 := by
              intro p hpm
              rw [← hp] at hpm
              obtain ⟨c, hc, rfl⟩ := List.mem_map.mp hpm
              exact (hk c hc).2.2
            have kl : ks.length = ps.length := by rw [← hp, List.length_map]
            refine ⟨_, ks.map fun c => (c.1, [c.2.1, c.2.2]), rfl, by rw [List.map_map]; exact s1, ?_, by rw [List.length_map]; omega, fun sa L hsa sub all => ?_⟩
            · intro c hc
              obtain ⟨c0, hc0, rfl⟩ := List.mem_map.mp hc
              exact SqT.of (hk c0 hc0).2.1
            · -- the set stands; now it is sorted
              have inL : ∀ c ∈ L, ∃ c0 ∈ ks, c = (c0.1, [c0.2.1, c0.2.2]) := fun c hc => by
                obtain ⟨c0, hc0, e⟩ := List.mem_map.mp (sub c hc)
                exact ⟨c0, hc0, e.symm⟩
              have bd : ∀ c0 ∈ ks, TS.Bd 64 [c0.2.1, c0.2.2] := by
                intro c0 hc0 m hm
                obtain ⟨b1, b2, b3, b4⟩ := (hk c0 hc0).2.2
                rcases List.mem_cons.mp hm with rfl | hm
                · exact ⟨b1, b2⟩
                · cases List.mem_singleton.mp hm
                  exact ⟨b3, b4⟩
              refine ⟨sa, L, 2, 64, rfl, upd_same, fun c hc => ?_, by decide, fun c hc => ?_, fun L2 pa perm nd few pw hpa kf3 => ?_⟩
              · obtain ⟨c0, hc0, rfl⟩ := inL c hc
                have e := (hk c0 hc0).2.1
                exact SqT.of (show upd H1 sa _ c0.1 = _ by rw [upd_ne (ne_of_none e hsa)]; exact e)
              · obtain ⟨c0, hc0, rfl⟩ := inL c hc
                exact ⟨rfl, bd c0 hc0⟩
              · have kf4 : KF X.K (upd H1 sa (SetTO X.prog X.w sa L)) := fun b u e => by
                  have ne : b ≠ pa := ne_of_none e hpa
                  exact kf3 b u (by rw [upd_ne ne]; exact e)
                obtain ⟨st2, rs2, nm2⟩ := RS.new rs1 hsa kf4
                -- the rows, by the pairs
                have back : ∃ cs : List (Addr × Int × Int), L2 = cs.map (fun c => (c.1, [c.2.1, c.2.2])) ∧ ∀ c ∈ cs, c ∈ ks := by
                  have go : ∀ (l : List (Addr × List Int)), (∀ c ∈ l, ∃ c0 ∈ ks, c = (c0.1, [c0.2.1, c0.2.2])) → ∃ cs : List (Addr × Int × Int), l = cs.map (fun c => (c.1, [c.2.1, c.2.2])) ∧ ∀ c ∈ cs, c ∈ ks := by
                    intro l
                    induction l with
                    | nil => exact fun _ => ⟨[], rfl, fun c hc => by cases hc⟩
                    | cons c l ih =>
                      intro hl
                      obtain ⟨cs, e, hcs⟩ := ih fun c hc => hl c (List.mem_cons_of_mem _ hc)
                      obtain ⟨c0, hc0, e0⟩ := hl c List.mem_cons_self
                      refine ⟨c0 :: cs, by rw [e0, e]; rfl, fun c hc => ?_⟩
                      rcases List.mem_cons.mp hc with rfl | hc
                      · exact hc0
                      · exact hcs c hc
                  exact go L2 fun c hc => inL c (perm.mem_iff.mp hc)
                obtain ⟨cs, rfl, hcs⟩ := back
                have srt : (cs.map (·.2)).Pairwise plt := by
                  rw [List.pairwise_map]
                  rw [List.pairwise_map] at pw
                  have nd2 : cs.Pairwise fun c d => ([c.2.1, c.2.2] : List Int) ≠ [d.2.1, d.2.2] := by
                    rw [List.map_map, List.nodup_iff_pairwise_ne, List.pairwise_map] at nd
                    exact nd
                  refine (pw.and nd2).imp_of_mem fun {c d} hc hd h => ?_
                  obtain ⟨b1, b2, b3, b4⟩ := (hk c (hcs c hc)).2.2
                  obtain ⟨d1, d2, d3, d4⟩ := (hk d (hcs d hd)).2.2
                  exact pair_lt h.1 h.2 ⟨b1, b2⟩ ⟨b3, b4⟩ ⟨d1, d2⟩ ⟨d3, d4⟩
                have same : cs.map (·.2) = canon ps := by
                  refine sorted_ext (lt := plt) (fun a h => ?_) (fun a b h1 h2 => ?_) srt (canon_sorted ps) fun x => ?_
                  · unfold plt at h; omega
                  · unfold plt at h1 h2; omega
                  · rw [mem_canon hb]
                    constructor
                    · intro hx
                      obtain ⟨c, hc, rfl⟩ := List.mem_map.mp hx
                      rw [← hp]
                      exact List.mem_map.mpr ⟨c, hcs c hc, rfl⟩
                    · intro hx
                      rw [← hp] at hx
                      obtain ⟨c, hc, rfl⟩ := List.mem_map.mp hx
                      have q1 := all _ (List.mem_map.mpr ⟨c, hc, rfl⟩)
                      obtain ⟨d, hd, e⟩ := List.mem_map.mp q1
                      obtain ⟨c2, hc2, e2⟩ := List.mem_map.mp (perm.mem_iff.mpr hd)
                      rw [← e2] at e
                      simp only [List.cons.injEq, and_true] at e
                      exact List.mem_map.mpr ⟨c2, hc2, Prod.ext e.1 e.2⟩
                have rel : RelL X.prog X.w X.K ι1 S1 (upd H1 sa (SetTO X.prog X.w sa L)) ((cs.map fun c => (c.1, [c.2.1, c.2.2])).map fun q => V.ref q.1) ((canon ps).map pairD) := by
                  rw [← same, List.map_map, List.map_map]
                  have go : ∀ l : List (Addr × Int × Int), (∀ c ∈ l, c ∈ ks) → RelL X.prog X.w X.K ι1 S1 (upd H1 sa (SetTO X.prog X.w sa L)) (l.map ((fun q => V.ref q.1) ∘ fun c => (c.1, ([c.2.1, c.2.2] : List Int)))) (l.map (pairD ∘ (·.2))) := by
                    intro l
                    induction l with
                    | nil => exact fun _ => .nil
                    | cons c l ih => exact fun hl => .cons (Rel.mono st2 rs2 _ _ (hk c (hl c List.mem_cons_self)).1) (ih fun c hc => hl c (List.mem_cons_of_mem _ hc))
                  exact go cs hcs
                exact h1 ι1 _ st2 rs2 pa _ hpa rel
        · rw [if_neg z] at h1; exact h1.elim
    | _ => exact h1.elim
end
end Mi
set_option linter.all false
set_option maxRecDepth 100000
namespace Mi
open PySem L2 PySem.Spec PyProof.Rows
/-- the law's def, at the end -/
theorem law_end {P : Program} {w : World} {K : PySem.W.Frag} {mg : Str → Option Value} {h : Heap} {x y : Str} {st : Stmt} {N : List Str} {k : Nat} {m : SM} {fa : Addr} (kin : K.In h) (G : h.Ns mainGlobals mg) (hfa : mg x = some (.ref fa)) (Df : DefAt K x st) (S : FnScope N [y] (defScope st))
    (hb : ∀ (kV doc pm : Value) (an : Option Addr) (cdv ct u : Value), bindArgs (PySem.W.fnOf x x (defArgs st) (defBody st) (defScope st) .none kV doc pm an cdv ct) ⟨[u], []⟩ = pure [(y, u)])
    (body : ∀ (base : Heap) (X : Cx), Amb X (defScope st) (defScope st).names N k → X.prog = P → X.w = w → X.K = K → X.mg = mg → X.base = base → SSs X W0 (defBody st) m) :
    ∃ fd : FuncData, (∀ (s : Shared) (u : Value), BindsTo s fd ⟨[u], []⟩ [(y, u)]) ∧ ∀ base : Heap, K.In base → base.Ns mainGlobals mg → FnG P w K mg base (k + 1) fa fd [y] (spF P w K 1 (runF N.length m)) := by
  obtain ⟨a, fd, F, at_⟩ := Df.ex
  have e := hfa.symm.trans (PySem.W.mg_of kin G at_)
  cases e
  obtain ⟨oc, od, kV, doc, pm, an, cdv, ct, osl, rfl, _, _⟩ := F.ex
  exact ⟨_, fun s u => .of_eq (hb kV doc pm an cdv ct u), fun base _ _ => fnG_mi (ps := [y]) F S (body base)⟩
end Mi
set_option linter.all false
set_option maxRecDepth 100000
/-! Mi, part U: evaluation of mirrors. -/
namespace Mi
open PySem L2
theorem atI_nat {α : Type} {l : List α} {i : Nat} (h : i < l.length) : atI l (i : Int) = some l[i] := by
  unfold atI ixN
  rw [if_pos (Int.natCast_nonneg _), if_pos (by exact_mod_cast h)]
  simp [h]
theorem atI_int {α : Type} {l : List α} {i : Int} (h0 : 0 ≤ i) (h : i < l.length) : atI l i = some (l[i.toNat]'(by omega)) := by
  have := atI_nat (l := l) (i := i.toNat) (by omega)
  rwa [Int.toNat_of_nonneg h0] at this
theorem idx_lst {l : List D} {i : Int} {S : Store} (h0 : 0 ≤ i) (h : i < l.length) : idxS (.lst l) (.int i) S = .ok (l[i.toNat]'(by omega)) S := by
  unfold idxS rd
  dsimp only
  rw [atI_int h0 h]
  rfl
theorem idx_tup {l : List D} {i : Int} {S : Store} (h0 : 0 ≤ i) (h : i < l.length) : idxS (.tup l) (.int i) S = .ok (l[i.toNat]'(by omega)) S := by
  unfold idxS rd
  dsimp only
  rw [atI_int h0 h]
  rfl
theorem len_lst {l : List D} {S : Store} : lenD [.lst l] S = .ok (.int (l.length : Nat)) S := rfl
theorem len_tup {l : List D} {S : Store} : lenD [.tup l] S = .ok (.int (l.length : Nat)) S := rfl
theorem add_int {i j : Int} {S : Store} : addD (.int i) (.int j) S = .ok (.int (i + j)) S := rfl
end Mi
set_option linter.all false
set_option maxRecDepth 100000
/-! Mi, part V: loops and comprehensions over typed lists. -/
namespace Mi
open PySem L2
/-! ### comprehensions -/
theorem lc_of {α : Type} {vs : List Nat} {g : GM} {t : TM} {e : EM} {ρ : Env} {S : Store} (enc : α → D) (p : α → Bool) (val : α → D) : ∀ (xs : List α) (acc : List D),
    (∀ x ∈ xs, ∃ ρ1, g (enc x) (wipe ρ vs) S = .next ρ1 S ∧ t ρ1 S = .ok (p x) S ∧ (p x = true → e ρ1 S = .ok (val x) S)) → acc.length + xs.length ≤ sizeLine →
    lcGo vs g t e ρ (xs.map enc) acc S = .ok (acc ++ (xs.filter p).map val) S
  | [], acc, _, _ => by simp [lcGo]
  | x :: xs, acc, h, hl => by
    obtain ⟨ρ1, h1, h2, h3⟩ := h x List.mem_cons_self
    rw [List.map_cons]
    unfold lcGo
    rw [h1]
    dsimp only
    rw [h2]
    cases hp : p x with
    | true =>
      dsimp only
      rw [h3 hp]
      dsimp only
      rw [if_pos (by simp at hl; omega), lc_of enc p val xs _ (fun y hy => h y (List.mem_cons_of_mem _ hy)) (by simp at hl ⊢; omega), List.filter_cons_of_pos hp]
      simp
    | false =>
      dsimp only
      rw [lc_of enc p val xs _ (fun y hy => h y (List.mem_cons_of_mem _ hy)) (by simp at hl ⊢; omega), List.filter_cons_of_neg (by simp [hp])]
theorem comp_of {α : Type} {vs : List Nat} {it : AM} {g : GM} {t : TM} {e : EM} {ρ : Env} {S S1 : Store} {xs : List α} (enc : α → D) (p : α → Bool) (val : α → D) (hi : it ρ S = .ok (xs.map enc) S1)
    (h : ∀ x ∈ xs, ∃ ρ1, g (enc x) (wipe ρ vs) S1 = .next ρ1 S1 ∧ t ρ1 S1 = .ok (p x) S1 ∧ (p x = true → e ρ1 S1 = .ok (val x) S1)) (hl : xs.length ≤ sizeLine) :
    lComp vs it g t e ρ S = .ok ((xs.filter p).map val) S1 := by
  unfold lComp
  rw [hi]
  show lcGo vs g t e ρ (xs.map enc) [] S1 = _
  rw [lc_of enc p val xs [] h (by simpa using hl)]
  simp
theorem comp_map {α : Type} {vs : List Nat} {it : AM} {g : GM} {e : EM} {ρ : Env} {S S1 : Store} {xs : List α} (enc : α → D) (val : α → D) (hi : it ρ S = .ok (xs.map enc) S1)
    (h : ∀ x ∈ xs, ∃ ρ1, g (enc x) (wipe ρ vs) S1 = .next ρ1 S1 ∧ e ρ1 S1 = .ok (val x) S1) (hl : xs.length ≤ sizeLine) :
    lComp vs it g tYes e ρ S = .ok (xs.map val) S1 := by
  have := comp_of (t := tYes) enc (fun _ => true) val hi (fun x hx => let ⟨ρ1, h1, h2⟩ := h x hx; ⟨ρ1, h1, rfl, fun _ => h2⟩) hl
  rwa [List.filter_eq_self.mpr fun _ _ => rfl] at this
/-! ### loops -/
/-- an invariant of a loop that runs through -/
theorem loop_inv {α : Type} {body : D → SM} (enc : α → D) (I : Nat → Env → Store → Prop) : ∀ (xs : List α) (i : Nat) (ρ : Env) (S : Store), I i ρ S →
    (∀ j x ρ S, xs[j]? = some x → I (i + j) ρ S → ∃ ρ' S', (body (enc x) ρ S = .next ρ' S' ∨ body (enc x) ρ S = .cont ρ' S') ∧ I (i + j + 1) ρ' S') →
    ∃ ρ' S', loop body (xs.map enc) ρ S = .next ρ' S' ∧ I (i + xs.length) ρ' S'
  | [], i, ρ, S, h, _ => ⟨ρ, S, rfl, h⟩
  | x :: xs, i, ρ, S, h, step => by
    obtain ⟨ρ1, S1, h1, h2⟩ := step 0 x ρ S rfl h
    obtain ⟨ρ2, S2, h3, h4⟩ := loop_inv enc I xs (i + 1) ρ1 S1 h2 fun j y ρ S hy hI => by
      have := step (j + 1) y ρ S (by simpa using hy) (by rw [show i + (j + 1) = i + 1 + j by omega]; exact hI)
      rwa [show i + (j + 1) + 1 = i + 1 + j + 1 by omega] at this
    refine ⟨ρ2, S2, ?_, by rw [List.length_cons, show i + (xs.length + 1) = i + 1 + xs.length by omega]; exact h4⟩
    rw [List.map_cons]
    unfold loop
    rcases h1 with h1 | h1 <;> rw [h1] <;> exact h3
/-- each turn keeps J, or the first that is wanted returns -/
theorem loop_find {α : Type} {body : D → SM} (enc : α → D) (p : α → Bool) (val : α → D) (J : Env → Prop) {S : Store} : ∀ (xs : List α) (ρ : Env), J ρ →
    (∀ x ∈ xs, ∀ ρ, J ρ → (p x = true → body (enc x) ρ S = .ret (val x) S) ∧ (p x = false → ∃ ρ', (body (enc x) ρ S = .next ρ' S ∨ body (enc x) ρ S = .cont ρ' S) ∧ J ρ')) →
    (∀ x, xs.find? p = some x → loop body (xs.map enc) ρ S = .ret (val x) S) ∧ (xs.find? p = none → ∃ ρ', loop body (xs.map enc) ρ S = .next ρ' S ∧ J ρ')
  | [], ρ, h, _ => ⟨fun x h => by simp at h, fun _ => ⟨ρ, rfl, h⟩⟩
  | x :: xs, ρ, h, step => by
    obtain ⟨h1, h2⟩ := step x List.mem_cons_self ρ h
    rw [List.map_cons, List.find?_cons]
    cases hp : p x with
    | true =>
      refine ⟨fun y hy => ?_, fun hn => by cases hn⟩
      cases hy
      unfold loop
      rw [h1 hp]
    | false =>
      obtain ⟨ρ1, g1, g2⟩ := h2 hp
      obtain ⟨g3, g4⟩ := loop_find enc p val J xs ρ1 g2 fun y hy => step y (List.mem_cons_of_mem _ hy)
      refine ⟨fun y hy => ?_, fun hn => ?_⟩
      · unfold loop
        rcases g1 with g1 | g1 <;> rw [g1] <;> exact g3 y hy
      · unfold loop
        rcases g1 with g1 | g1 <;> rw [g1] <;> exact g4 hn
/-- each turn goes on: no turn returns -/
theorem loop_all {α : Type} {body : D → SM} (enc : α → D) (J : Env → Prop) {S : Store} (xs : List α) (ρ : Env) (h : J ρ) (step : ∀ x ∈ xs, ∀ ρ, J ρ → ∃ ρ', (body (enc x) ρ S = .next ρ' S ∨ body (enc x) ρ S = .cont ρ' S) ∧ J ρ') :
    ∃ ρ', loop body (xs.map enc) ρ S = .next ρ' S ∧ J ρ' :=
  (loop_find enc (fun _ => false) enc J xs ρ h fun x hx ρ hρ => ⟨(fun z => by cases z), fun _ => step x hx ρ hρ⟩).2 (by simp)
/-! ### what is walked -/
theorem intsD_range : ∀ (n lo : Nat), intsD (lo : Int) n = (List.range n).map fun i => D.int ((lo + i : Nat) : Int)
  | 0, _ => rfl
  | n + 1, lo => by
    have ih := intsD_range n (lo + 1)
    rw [List.range_succ_eq_map, List.map_cons, List.map_map]
    unfold intsD
    congr 1
    rw [show ((lo : Int) + 1) = ((lo + 1 : Nat) : Int) by omega, ih]
    refine List.map_congr_left fun i _ => ?_
    show D.int ((lo + 1 + i : Nat) : Int) = D.int ((lo + (i + 1) : Nat) : Int)
    congr 2
    omega
theorem intsD_zero (n : Nat) : intsD 0 n = (List.range n).map fun i => D.int (i : Nat) := by
  have := intsD_range n 0
  simpa using this
theorem intsD_zero' (n : Nat) : intsD 0 ((n : Int) - 0).toNat = (List.range n).map fun i => D.int (i : Nat) := by
  rw [Int.sub_zero, Int.toNat_natCast]
  exact intsD_zero n
theorem enumD_map {α : Type} (enc : α → D) : ∀ (xs : List α) (n : Nat), enumD n (xs.map enc) = (xs.zipIdx n).map fun p => .tup [.int (p.2 : Nat), enc p.1]
  | [], _ => rfl
  | x :: xs, n => by
    rw [List.map_cons, List.zipIdx_cons, List.map_cons]
    unfold enumD
    rw [enumD_map enc xs (n + 1)]
theorem enumD_range (enc : Nat → D) (m : Nat) : enumD 0 ((List.range m).map enc) = (List.range m).map fun f => .tup [.int (f : Nat), enc f] := by
  rw [enumD_map]
  apply List.ext_getElem?
  intro i
  rw [List.getElem?_map, List.getElem?_map, List.getElem?_zipIdx]
  by_cases h : i < m
  · simp [h]
  · simp [h]
theorem rngB_nat {n : Nat} (h : n < 2 ^ 62) : rngB 0 (n : Int) = true := by
  unfold rngB
  simp only [Bool.and_eq_true, decide_eq_true_eq]
  omega
theorem it_range {n : Nat} (h : n < 2 ^ 62) {S : Store} : range1 (.int (n : Nat)) S = .ok ((List.range n).map fun i => D.int (i : Nat)) S := by
  unfold range1
  dsimp only
  rw [if_pos (rngB_nat h)]
  simp [intsD_zero]
theorem it_rngN {n : Nat} (h : n < 2 ^ 62) {S : Store} : items (.rng 0 (n : Nat)) S = .ok ((List.range n).map fun i => D.int (i : Nat)) S := by
  unfold items
  dsimp only
  rw [if_pos (rngB_nat h)]
  simp [intsD_zero]
theorem idx_rng {m f : Nat} (F : Nat → D) (h : f < m) {S : Store} : idxS (.tup ((List.range m).map F)) (.int (f : Nat)) S = .ok (F f) S := by
  have := idx_tup (l := (List.range m).map F) (i := (f : Int)) (S := S) (by omega) (by simpa using h)
  rw [this]
  simp
theorem idx_rngL {m f : Nat} (F : Nat → D) (h : f < m) {S : Store} : idxS (.lst ((List.range m).map F)) (.int (f : Nat)) S = .ok (F f) S := by
  have := idx_lst (l := (List.range m).map F) (i := (f : Int)) (S := S) (by omega) (by simpa using h)
  rw [this]
  simp
theorem idx_0 {a : D} {l : List D} {S : Store} : idxS (.tup (a :: l)) (.int 0) S = .ok a S := by
  have := idx_tup (l := a :: l) (i := 0) (S := S) (by omega) (by simp)
  simpa using this
theorem idx_1 {a b : D} {l : List D} {S : Store} : idxS (.tup (a :: b :: l)) (.int 1) S = .ok b S := by
  have := idx_tup (l := a :: b :: l) (i := 1) (S := S) (by omega) (by simp; omega)
  simpa using this
theorem idx_2 {a b c : D} {l : List D} {S : Store} : idxS (.tup (a :: b :: c :: l)) (.int 2) S = .ok c S := by
  have := idx_tup (l := a :: b :: c :: l) (i := 2) (S := S) (by omega) (by simp; omega)
  simpa using this
theorem idxL_0 {a : D} {l : List D} {S : Store} : idxS (.lst (a :: l)) (.int 0) S = .ok a S := by
  have := idx_lst (l := a :: l) (i := 0) (S := S) (by omega) (by simp)
  simpa using this
/-! ### == -/
theorem eq_int {i j : Int} {S : Store} : eqD (.int i) (.int j) S = .ok (i == j) S := by
  simp [eqD, rd, D.flat, D.py, PyData.eqv]
theorem eq_pair {a b c d : Int} {S : Store} : eqD (.tup [.int a, .int b]) (.tup [.int c, .int d]) S = .ok (a == c && b == d) S := by
  simp [eqD, rd, D.flat, D.flatAll, D.py, D.pyAll, PyData.eqv, PyData.eqvAll]
theorem ne_int {i j : Int} {S : Store} : neD (.int i) (.int j) S = .ok (!(i == j)) S := by
  unfold neD
  rw [eq_int]
  rfl
theorem ne_nil {l : List D} {S : Store} (h : D.flatAll 59 l = true) : neD (.lst l) (.lst []) S = .ok (!l.isEmpty) S := by
  unfold neD eqD
  cases l with
  | nil => simp [rd, D.flat, D.flatAll, D.py, D.pyAll, PyData.eqv, PyData.eqvAll]
  | cons a l =>
    simp only [D.flatAll, Bool.and_eq_true] at h
    simp [rd, D.flat, h.1, h.2, D.flatAll, D.py, D.pyAll, PyData.eqv, PyData.eqvAll]
/-! ### calls -/
theorem pureAll_map {α : Type} {F : α → D} : ∀ {l : List α}, (∀ x ∈ l, (F x).pure = true) → D.pureAll (l.map F) = true
  | [], _ => rfl
  | x :: l, h => by
    rw [List.map_cons]
    simp only [D.pureAll, Bool.and_eq_true]
    exact ⟨h x List.mem_cons_self, pureAll_map fun y hy => h y (List.mem_cons_of_mem _ hy)⟩
theorem callP_ok {f : FM} {ds : List D} {d : D} {S S1 : Store} (h : f ds [] = .ok d S1) (h1 : D.pureAll ds = true) (h2 : d.pure = true) : callP f ds S = .ok d S := by
  unfold callP
  rw [if_pos h1, h]
  dsimp only
  rw [if_pos h2]
end Mi
set_option linter.all false
set_option maxRecDepth 100000
/-! Mi, part W: repr(a) == repr(a). -/
namespace Mi
open PySem L2
mutual
/-- what the text may come to -/
def D.wt : D → Nat
  | .tup l => D.wtAll l + 3
  | .lst l => D.wtAll l + 3
  | _ => 24
def D.wtAll : List D → Nat
  | [] => 0
  | d :: ds => d.wt + 2 + D.wtAll ds
end
mutual
/-- None, bools, small ints, tuples and lists of these, at most n deep -/
def D.tiny : Nat → D → Bool
  | _, .non => true
  | _, .bl _ => true
  | _, .int i => decide (i.natAbs < 1000000000000000000)
  | n + 1, .tup l => D.tinyAll n l
  | n + 1, .lst l => D.tinyAll n l
  | _, _ => false
def D.tinyAll : Nat → List D → Bool
  | _, [] => true
  | n, d :: ds => D.tiny n d && D.tinyAll n ds
end
theorem tiny_main : ∀ j : Nat, (∀ (n : Nat) (d : D), sizeOf d ≤ j → D.tiny n d = true → D.flat n d = true ∧ d.py.showable = true ∧ d.py.shown.length ≤ d.wt) ∧
    (∀ (n : Nat) (ds : List D), sizeOf ds ≤ j → D.tinyAll n ds = true → D.flatAll n ds = true ∧ PyData.showableAll (D.pyAll ds) = true ∧ ((PyData.shownAll (D.pyAll ds)).map (·.length)).sum + 2 * (PyData.shownAll (D.pyAll ds)).length ≤ D.wtAll ds) := by
  intro j
  induction j with
  | zero => exact ⟨fun n d h => by cases d <;> simp at h, fun n ds h => by cases ds <;> simp at h⟩
  | succ j ih =>
    refine ⟨fun n d hs ht => ?_, fun n ds hs ht => ?_⟩
    · cases d with
      | non => cases n <;> exact ⟨by simp [D.flat], by simp [D.py, PyData.showable], by simp only [D.py, PyData.shown, D.wt]; decide +kernel⟩
      | bl b =>
        cases b <;> cases n <;> exact ⟨by simp [D.flat], by simp [D.py, PyData.showable], by simp only [D.py, PyData.shown, D.wt]; decide +kernel⟩
      | int i =>
        have hi : i.natAbs < 1000000000000000000 := by cases n <;> simpa [D.tiny] using ht
        have hl : i.natAbs.log2 < 1920 := by
          by_cases z : i.natAbs = 0
          · rw [z]; decide
          · exact (Nat.log2_lt z).mpr (Nat.lt_trans hi (by decide))
        refine ⟨by cases n <;> simp [D.flat], by simp only [D.py, PyData.showable]; exact decide_eq_true hl, ?_⟩
        simp only [D.py, PyData.shown, D.wt]
        have := int_text_length_le10 (a := i) (k := 18) (by omega) hi
        have e := ofString_length (toString i)
        show (Str.ofString (toString i)).length ≤ 24
        omega
      | tup l =>
        cases n with
        | zero => simp [D.tiny] at ht
        | succ n =>
          simp only [D.tiny] at ht
          obtain ⟨h1, h2, h3⟩ := ih.2 n l (by simp at hs; omega) ht
          refine ⟨by simpa [D.flat] using h1, by simpa [D.py, PyData.showable] using h2, ?_⟩
          simp only [D.py, PyData.shown, D.wt]
          exact Nat.le_trans (tupleText_len_le _) (by omega)
      | lst l =>
        cases n with
        | zero => simp [D.tiny] at ht
        | succ n =>
          simp only [D.tiny] at ht
          obtain ⟨h1, h2, h3⟩ := ih.2 n l (by simp at hs; omega) ht
          refine ⟨by simpa [D.flat] using h1, by simpa [D.py, PyData.showable] using h2, ?_⟩
          simp only [D.py, PyData.shown, D.wt]
          exact Nat.le_trans (listText_len_le _) (by omega)
      | _ => cases n <;> simp [D.tiny] at ht
    · cases ds with
      | nil => exact ⟨by simp [D.flatAll], by simp [D.pyAll, PyData.showableAll], by simp [D.pyAll, PyData.shownAll, D.wtAll]⟩
      | cons d ds =>
        simp only [D.tinyAll, Bool.and_eq_true] at ht
        obtain ⟨h1, h2, h3⟩ := ih.1 n d (by simp at hs; omega) ht.1
        obtain ⟨g1, g2, g3⟩ := ih.2 n ds (by simp at hs; omega) ht.2
        refine ⟨by simp [D.flatAll, h1, g1], by simp [D.pyAll, PyData.showableAll, h2, g2], ?_⟩
        simp only [D.pyAll, PyData.shownAll, D.wtAll, List.map_cons, List.sum_cons, List.length_cons]
        omega
theorem repr_ok {d : D} {S : Store} (h : D.tiny 60 d = true) (hw : d.wt ≤ 16777216) (hl : rd d S = some d) : reprD [d] S = .ok (.str d.py.shown) S := by
  obtain ⟨h1, h2, h3⟩ := (tiny_main (sizeOf d)).1 60 d (Nat.le_refl _) h
  unfold reprD
  dsimp only
  rw [hl]
  dsimp only
  rw [if_pos]
  rw [h1, h2, sizeLine_eq, Bool.true_and, Bool.true_and]
  exact decide_eq_true (Nat.le_trans h3 hw)
theorem eq_str {x y : Str} {S : Store} : eqD (.str x) (.str y) S = .ok (x == y) S := rfl
theorem rd_tiny {n : Nat} {d : D} {S : Store} (h : D.tiny n d = true) : rd d S = some d := by
  cases d with
  | loc l => cases n <;> simp [D.tiny] at h
  | _ => rfl
theorem tinyAll_map {α : Type} {F : α → D} {n : Nat} : ∀ {l : List α}, (∀ x ∈ l, D.tiny n (F x) = true) → D.tinyAll n (l.map F) = true
  | [], _ => by simp [D.tinyAll]
  | x :: l, h => by
    rw [List.map_cons]
    simp only [D.tinyAll, Bool.and_eq_true]
    exact ⟨h x List.mem_cons_self, tinyAll_map fun y hy => h y (List.mem_cons_of_mem _ hy)⟩
theorem wtAll_map {α : Type} {F : α → D} {c : Nat} : ∀ {l : List α}, (∀ x ∈ l, (F x).wt ≤ c) → D.wtAll (l.map F) ≤ l.length * (c + 2)
  | [], _ => by simp [D.wtAll]
  | x :: l, h => by
    have ih := wtAll_map (F := F) (c := c) (l := l) fun y hy => h y (List.mem_cons_of_mem _ hy)
    have hx := h x List.mem_cons_self
    rw [List.map_cons, List.length_cons, Nat.succ_mul]
    simp only [D.wtAll]
    omega
end Mi
set_option linter.all false
set_option maxRecDepth 100000
/-! Mi, part X: set(xs) of whole numbers, its members sorted; all, any of lists of bools. -/
namespace Mi
open PySem PySem.Spec PyProof.Rows L2
section
variable {prog : Program} {w : World} {A : Around} {R : Result → Shared → Prop} {it : Addr} {fp wr : List Addr} {G : Array GenState → Array GenState → Prop} {n : Nat} {P : Nat → Value → Prop} {St : Nat → Shared → Prop}
/-- the members met so far -/
def metB (val : Nat → Int) (i : Nat) : Int → Bool := fun j => (firstMet val i).any (· == j)
theorem setR_loop (W : WalksS prog w A.in1 it fp wr G n P St) (a : Addr) (hf : a ∉ fp) (val : Nat → Int) (hv : ∀ i v, P i v → ∃ t, v = .int (val i) t) (room : n + 1 < scanBound) :
    ∀ (k i : Nat) (s : Shared), n - i = k → i ≤ n → St i s → SetR w s.heap a (metB val i) (firstMet val i).length →
      (∀ s', Moved (a :: wr) G s s' → SetR w s'.heap a (metB val n) (firstMet val n).length → R (.ok (.ret .none)) s') → codeAny (model prog w) A (.builtin "set.update.loop" ⟨[.ref a, .ref it], []⟩) R s := by
  have out : a ∉ wr := fun h => hf (W.sub _ h)
  have more : ∀ b ∈ wr, b ∈ a :: wr := fun b hb => List.mem_cons_of_mem _ hb
  intro k
  induction k with
  | zero =>
    intro i s hk hi st0 set0 go
    obtain rfl : i = n := by omega
    refine codeAny_builtin PyProof.Rows.F.entry_set_update_loop ?_
    rw [Around.under_plainId PyProof.Rows.F.plain_set_update_loop _]; show wpAny _ A.in1 (pyNext (.ref it) >>= _) _ _ s
    exact wpAny_bind (W.done s _ _ st0 fun s' hm => (wpAny_pure (go s' (hm.mono more) (set0.at fun o ho => hm.heap a _ out ho)) : wpAny _ A.in1 (ret Value.none) _ _ s'))
  | succ k ih =>
    intro i s hk hi st0 set0 go
    have lt : i < n := by omega
    refine codeAny_builtin PyProof.Rows.F.entry_set_update_loop ?_
    rw [Around.under_plainId PyProof.Rows.F.plain_set_update_loop _]; show wpAny _ A.in1 (pyNext (.ref it) >>= _) _ _ s
    refine wpAny_bind (W.item i s _ _ lt st0 fun v s' hP st1 hm => ?_)
    obtain ⟨t, rfl⟩ := hv i v hP
    have set1 : SetR w s'.heap a (metB val i) (firstMet val i).length := set0.at fun o ho => hm.heap a _ out ho
    show wpAny _ A.in1 (holding [Value.int (val i) t] (setAdd a (.int (val i) t)) >>= _) _ _ s'; refine wpAny_bind (wpAny_holding ?_)
    unfold setAdd
    refine wpAny_holding (wpAny_bind ((intKind prog w).pyHash (k := val i) (intKind_is _ _ _ _) ?_))
    refine setR_add_hashed (s := { s' with toks := s'.toks + 1 }) set1 (by have := firstMet_length_le val i; omega) fun h' sb set2 => ?_
    have e1 : (fun j => metB val i j || decide (j = val i)) = metB val (i + 1) := by funext j; unfold metB; rw [firstMet_succ, step_any]
    have e2 : (if metB val i (val i) = true then (firstMet val i).length else (firstMet val i).length + 1) = (firstMet val (i + 1)).length := by rw [firstMet_succ, step_length]; rfl
    rw [e1, e2] at set2
    refine wpAny_pure ⟨plainId_quiet PyProof.Rows.F.plain_set_update_loop _, ih (i + 1) _ (by omega) lt (W.frame _ s' _ _ st1 (Nat.le_succ _) fun b hb o e => (sb.2 b fun z => hf (z ▸ hb)).trans e) set2 fun s'' hm2 set3 => go s'' ?_ set3⟩
    exact Moved.trans W.gtrans ((hm.mono more).then_heap (Nat.le_succ _) fun b o hb e => (sb.2 b fun z => hb (by rw [z]; exact List.mem_cons_self)).trans e) hm2
end
section
variable {prog : Program} {w : World} {A : Around} {E : Value → Shared → Prop} {s : Shared}
/-- a set that is new, and what the machine says of its order -/
def freshSet (w : World) : Obj := { cls := .type "set", dict := none, data := .set #[] 0 (.fresh 0 0 (!w.params.followText "set-order")) }
theorem set_made (u : Value) {T : Value → Shared → Prop} (h : T (.ref s.heap.objs.size) { s with heap := s.heap.push (freshSet w) }) : codeAny (model prog w) A (.call (.builtin "set.__new__") ⟨[.type "set", u], []⟩) (wants T E) s := by
  refine codeAny_of_tree ?_
  show wpAny _ A.in1 (do checkBuiltinCall "set.__new__" ⟨[.type "set", u], []⟩; again (.builtin "set.__new__" ⟨[.type "set", u], []⟩)) _ _ s; refine wpAny_bind (wpAny_of_eq (PySem.F.newCall_set_1 u) (wpAny_pure ⟨plainId_quiet PySem.F.plain_set_new _, codeAny_builtin PySem.F.entry_set_new ?_⟩))
  rw [Around.under_plainId PySem.F.plain_set_new _]; unfold Builtin.«set.__new__» Builtin.Frozenset.newClass
  have hsub := sub_set_self
  obtain ⟨hp, g, d, tk, os⟩ := s
  dsimp only; wp_walk; refine wpAny_askSetting (wpAny_pure ?_)
  dsimp only; simp only [newObj]; exact wpAny_bind (wpAny_alloc (wpAny_pure (wpAny_pure h)))
set_option maxHeartbeats 3200000 in
theorem set_of_list {l : Addr} {xs : Array Value} {ns : List Int} {Q : Value → Shared → Prop} (hh : A.handled = none) (hl : s.heap.IsList l xs) (hi : IntsAre xs.toList ns) (room : xs.size + 1 < scanBound)
    (h : ∀ (h' : Heap) (tk : Nat), SetR w h' s.heap.objs.size (metB (fun i => ns.getD i 0) xs.size) (firstMet (fun i => ns.getD i 0) xs.size).length → (∀ b o, b < s.heap.objs.size → s.heap.get? b = some o → h'.get? b = some o) → Q (.ref s.heap.objs.size) { s with heap := h', toks := tk }) :
    wpAny (model prog w) A (call (.type "set") [.ref l]) Q E s := by
  obtain ⟨c, tl, hmro⟩ := PySem.F.called_set.mro
  have hmade := PySem.F.called_set.made
  have hsub := PySem.F.called_set.sub
  refine wpAny_call (codeAny_of_tree ?_); show wpAny _ _ (callAny (.type "set") _) _ _ _
  refine wpAny_pure ⟨Code.quiet_builtin _ (by decide +kernel), codeAny_builtin PySem.F.entry_type_call ?_⟩; rw [Around.under_plain (weight_type_call_type "set" [.ref l] []) rfl]
  have h1 := PySem.F.called_set.notType
  have h2 := PySem.F.called_set.canCreate
  have hct := PySem.F.typeCall_set_1 (.ref l)
  repeat (any_goals (first | assumption | wp_step))
  refine codeAny_mono (set_made (.ref l) (E := E) (T := fun obj s₁ => obj = .ref s.heap.objs.size ∧ s₁ = { s with heap := s.heap.push (freshSet w) }) ⟨rfl, rfl⟩) fun r s₁ hr => ?_
  cases r with
  | error e => exact hr
  | ok fl =>
    cases fl with
    | ret obj =>
      obtain ⟨rfl, rfl⟩ := hr
      have at0 : (s.heap.push (freshSet w)).get? s.heap.objs.size = some (freshSet w) := Heap.get?_push_size _ rfl
      have hT : Shared.TypeIs { s with heap := s.heap.push (freshSet w) } (.ref s.heap.objs.size) "set" := ⟨_, at0, rfl⟩
      have hli := PySem.F.called_set.init.lookup
      have hbi := PySem.F.called_set.init.bind (.ref s.heap.objs.size)
      repeat (any_goals (first | assumption | wp_step))
      refine codeAny_mono (codeAny_call_builtin (R := wants (fun r s₂ => r = .none ∧ ∃ h' tk, s₂ = { s with heap := h', toks := tk } ∧ SetR w h' s.heap.objs.size (metB (fun i => ns.getD i 0) xs.size) (firstMet (fun i => ns.getD i 0) xs.size).length ∧
          (∀ b o, b < s.heap.objs.size → s.heap.get? b = some o → h'.get? b = some o)) E) PySem.F.called_set.init.plain PySem.F.entry_set_init (check_set_init_1 hT ?_)) fun r₂ s₂ hr₂ => ?_
      · obtain ⟨ol, hol, hcl, nl, hdl⟩ := hl
        obtain ⟨ocls, odict, odata, oslots⟩ := ol; simp only at hcl hdl
        subst hcl; subst hdl
        have hol' : (s.heap.push (freshSet w)).get? l = some { cls := .type "list", dict := odict, data := .seq xs nl, slots := oslots } := Heap.get?_push_of_some _ hol
        have hsls := PySem.F.sub_list_set
        have hslf := PySem.F.sub_list_frozenset
        have hne : (Value.type "list" == Value.type "dict") = false := by decide
        have hl1 : (s.heap.push (freshSet w)).IsList l xs := ⟨_, hol', rfl, nl, rfl⟩
        unfold Builtin.«set.__init__» noKeywords Builtin.Frozenset.updateFrom; generalize hPI : pyIter = PI
        wp_walk
        subst hPI
        refine wpAny_pyIter_list hl1 (wpAny_bind (wpAny_runValue ?_))
        have ltS : l < s.heap.objs.size := Heap.lt_size hol
        have hh3 : A.in1.in1.in1.handled = none := by simp [hh]
        have apart : l ≠ (s.heap.push (freshSet w)).objs.size := by rw [Heap.size_push]; exact Nat.ne_of_lt (Nat.lt_succ_of_lt ltS)
        have out : s.heap.objs.size ∉ [(s.heap.push (freshSet w)).objs.size, l] := by
          rw [Heap.size_push]
          intro z
          rcases List.mem_cons.mp z with z | z
          · exact absurd z (Nat.ne_of_lt (Nat.lt_succ_self _))
          · exact absurd (List.mem_singleton.mp z).symm (Nat.ne_of_lt ltS)
        refine setR_loop ((Walks.list hh3 _ l apart xs).toS) s.heap.objs.size out (fun i => ns.getD i 0) (fun i v e => IntsAre.int_at hi i v (by rw [Array.getElem?_toList]; exact e)) room (xs.size - 0) 0 _ (by omega) (Nat.zero_le _) ⟨⟨_, Heap.get?_push_size _ rfl, rfl, rfl⟩, (hl1.push _)⟩ ?hS0 ?hR
        case hS0 => exact (setR_fresh w).at fun o e => Heap.get?_push_of_some _ e
        case hR =>
          intro s' hm set9
          obtain ⟨h', g', d', tk', os'⟩ := s'
          obtain rfl : g' = s.gens := hm.gens
          obtain rfl : d' = s.drawn := hm.drawn
          obtain rfl : os' = s.os := hm.os
          show wpAny _ _ _ _ _ _; refine wpAny_pure ?_; show wpAny _ _ (ret Value.none) _ _ _
          refine wpAny_pure ⟨rfl, h', tk', rfl, set9, fun b o hb e => hm.heap b o ?_ (Heap.get?_push_of_some _ (Heap.get?_push_of_some _ e))⟩
          intro z
          rcases List.mem_cons.mp z with z | z
          · exact absurd z (Nat.ne_of_lt hb)
          · exact absurd (List.mem_singleton.mp z) (Nat.ne_of_lt (by rw [Heap.size_push]; exact Nat.lt_succ_of_lt hb))
      · cases r₂ with
        | error e => exact hr₂
        | ok fl₂ =>
          cases fl₂ with
          | ret r =>
            obtain ⟨rfl, h', tk, rfl, set9, keep⟩ := hr₂
            repeat (any_goals (first | assumption | wp_step))
            exact h _ _ set9 keep
          | _ => exact hr₂.elim
    | _ => exact hr.elim
end
end Mi
set_option linter.all false
set_option maxRecDepth 100000
/-! Mi, part Y: sorted(set(xs)) of whole numbers; sorted(d); d.get; all, any. -/
namespace Mi
open PySem PySem.Spec PyProof.Rows L2
/-! ### whole numbers, each once, ascending -/
def insU (x : Int) : List Int → List Int
  | [] => [x]
  | y :: t => if x < y then x :: y :: t else if x = y then y :: t else y :: insU x t
def canonI (ns : List Int) : List Int := ns.foldr insU []
theorem mem_insU {x z : Int} : ∀ {l : List Int}, z ∈ insU x l ↔ z = x ∨ z ∈ l
  | [] => by simp [insU]
  | y :: t => by
    unfold insU
    split
    · simp
    · split
      · rename_i e
        subst e
        simp
      · rw [List.mem_cons, mem_insU, List.mem_cons]
        constructor
        · rintro (h | h | h)
          · exact .inr (.inl h)
          · exact .inl h
          · exact .inr (.inr h)
        · rintro (h | h | h)
          · exact .inr (.inl h)
          · exact .inl h
          · exact .inr (.inr h)
theorem ord_insU {x : Int} : ∀ {l : List Int}, l.Pairwise (· < ·) → (insU x l).Pairwise (· < ·)
  | [], _ => by simp [insU]
  | y :: t, h => by
    obtain ⟨h1, h2⟩ := List.pairwise_cons.mp h
    unfold insU
    split
    · rename_i e
      refine List.pairwise_cons.mpr ⟨fun z hz => ?_, h⟩
      rcases List.mem_cons.mp hz with rfl | hz
      · exact e
      · have := h1 z hz; omega
    · split
      · exact h
      · refine List.pairwise_cons.mpr ⟨fun z hz => ?_, ord_insU h2⟩
        rcases mem_insU.mp hz with rfl | hz
        · omega
        · exact h1 z hz
theorem mem_canonI {z : Int} : ∀ {ns : List Int}, z ∈ canonI ns ↔ z ∈ ns
  | [] => Iff.rfl
  | x :: ns => by
    show z ∈ insU x (canonI ns) ↔ _
    rw [mem_insU, mem_canonI, List.mem_cons]
theorem ord_canonI : ∀ ns : List Int, (canonI ns).Pairwise (· < ·)
  | [] => .nil
  | x :: ns => ord_insU (ord_canonI ns)
theorem mem_met {ns : List Int} {k : Int} : metB (fun i => ns.getD i 0) ns.length k = true ↔ k ∈ ns := by
  unfold metB
  rw [firstMet_any, List.any_eq_true]
  constructor
  · rintro ⟨x, hx, e⟩
    obtain ⟨i, hi, rfl⟩ := List.mem_map.mp hx
    have hi := List.mem_range.mp hi
    have e : ns.getD i 0 = k := by simpa using e
    rw [← e, List.getD_eq_getElem?_getD, List.getElem?_eq_getElem hi]
    exact List.getElem_mem hi
  · intro h
    obtain ⟨i, hi, rfl⟩ := List.getElem_of_mem h
    exact ⟨ns[i], List.mem_map.mpr ⟨i, List.mem_range.mpr hi, by simp [hi]⟩, by simp⟩
section
variable {X : Cx} {W : WE} {sc : Scope} {ow : List (Str × NameKind)} {N : List Str} {k : Nat}
variable {a b e o tg : Expr} {ma mb mo : EM} {pos apos p : Pos} {es : List Expr} {r : AM}
/-- set(xs), xs a list of whole numbers -/
def rSetOfI (K : PySem.W.Frag) (w : World) : List V → Hp → VK → Prop := fun xs H Q => ∃ (l : Addr) (ns : List Int), xs = [V.ref l] ∧ SqL K H l (ns.map V.int) ∧ ns.length < 64 ∧
  ∀ a, H a = none → Q (.ref a) (upd H a (SetO w a (metB (fun i => ns.getD i 0) ns.length) (firstMet (fun i => ns.getD i 0) ns.length).length))
theorem cr_setOfI (hc : X.calm = true) : CallR X (.type "set") (rSetOfI X.K X.w) := by
  intro pins s σ H xs us Q I r h
  obtain ⟨l, ns, rfl, hl, hf, q⟩ := h
  rw [Vals.ref1 r]
  obtain ⟨its, rv, pl, hz⟩ := I.list hl
  have hn : H s.heap.objs.size = none := I.hok.fresh (Nat.le_refl _)
  have count : its.toArray.size = ns.length := by rw [List.size_toArray, ← rv.length, List.length_map]
  refine set_of_list (I.ok.hd hc) pl.isList (ns := ns) (by simpa using rv.ints) (by unfold scanBound; omega) fun h' tk R keep => ?_
  rw [count] at R
  exact ⟨.ref s.heap.objs.size, _, I.laid (t' := tk) (fun b o e => keep b o (Heap.lt_size e) e) (Nat.le_refl _) (setO_new R), rfl, q _ hn⟩
def sortSetI (d : D) (S : Store) : Res (List D) := match rd d S with
  | some (.lst l) => (match intsOf l with
    | some ns => if ns.length < 64 then .ok ((canonI ns).map D.int) S else .bad
    | none => .bad)
  | _ => .bad
theorem relL_ints {P : Program} {w : World} {K : PySem.W.Frag} {ι : Pl} {S : Store} {H : Hp} : ∀ ms : List Int, RelL P w K ι S H (ms.map V.int) (ms.map D.int)
  | [] => .nil
  | m :: ms => .cons (.int m) (relL_ints ms)
theorem sl_sortSetI {q p2 : Pos} (A : Amb X sc ow N k) (hm : X.mg "sorted" = none) (hg : glB sc "sorted" = true) (hm2 : X.mg "set" = none) (hg2 : glB sc "set" = true) (ha : SE X W a ma) (na : starEach [a] X.env = [(false, eval a X.env)] := by rfl)
    (nb : starEach [.Call (.Name "set" p2) [a] [] q] X.env = [(false, eval (.Call (.Name "set" p2) [a] [] q) X.env)] := by rfl) :
    SL X W (.Call (.Name "sorted" p) [.Call (.Name "set" p2) [a] [] q] [] pos) (lOp1 sortSetI ma) := by
  refine PE.use (pe_callB (cr_sortedSet A.calm) (gl_of A hg) hm (by decide +kernel) (pa_cons (pe_callTy (cr_setOfI A.calm) (gl_of A hg2) hm2 (by decide +kernel) (pa_cons ha pa_nil na) (he := na) (hpl := rfl)) pa_nil nb) (he := nb) (hpl := rfl)) fun σ H Q kf q => ?_
  obtain ⟨ι, S, ρ, rs, er, h⟩ := q kf
  refine fun _ => ⟨ι, S, ρ, rs, er, Out.mono (Out.bind h) fun ι1 S1 H1 dx st1 rs1 h1 x rx => ?_⟩
  unfold sortSetI at h1
  cases e1 : rd dx S1 with
  | none => rw [e1] at h1; exact h1.elim
  | some d1 =>
    rw [e1] at h1
    have v1 := vw_of rs1 rx e1
    cases d1 with
    | lst l =>
      dsimp only at h1
      cases e2 : intsOf l with
      | none => rw [e2] at h1; exact h1.elim
      | some ns =>
        rw [e2] at h1
        dsimp only at h1
        by_cases z : ns.length < 64
        · rw [if_pos z] at h1
          cases v1 with
          | oth _ no => exact no.elim
          | lst s1 r1 =>
            obtain ⟨q1, q2⟩ := intsOf_rel e2 r1
            subst q1
            refine ⟨_, ns, rfl, s1, z, fun sa hsa => ?_⟩
            refine ⟨sa, _, _, rfl, upd_same, Nat.lt_of_le_of_lt (firstMet_length_le _ _) z, fun ms pa pw mem len hpa kf3 => ?_⟩
            have kf4 : KF X.K (upd H1 sa (SetO X.w sa (metB (fun i => ns.getD i 0) ns.length) (firstMet (fun i => ns.getD i 0) ns.length).length)) := fun b u e => kf3 b u (by rw [upd_ne (ne_of_none e hpa)]; exact e)
            obtain ⟨st2, rs2, nm2⟩ := RS.new rs1 hsa kf4
            have same : ms = canonI ns := sorted_ext (lt := (· < ·)) (fun a h => Int.lt_irrefl a h) (fun a b h1 h2 => by omega) pw (ord_canonI ns) fun x => by rw [mem, mem_met, mem_canonI]
            subst same
            exact h1 ι1 _ st2 rs2 pa _ hpa (relL_ints _)
        · rw [if_neg z] at h1; exact h1.elim
    | _ => exact h1.elim
/-! ### d.get(k, x) -/
def getD2 (d : D) (ds : List D) (S : Store) : Res D := match ds with
  | [y, v] => (match dLook d y S with
    | some (some u) => .ok u S
    | some none => .ok v S
    | none => .bad)
  | _ => .bad
def rGet2 (X : Cx) : V → List V → Hp → VK → Prop := fun x xs H Q => ∃ y d o, xs = [y, d] ∧ Lk X H x y o ∧ Q (o.getD d) H
theorem mt_get2 (hu : X.A.units + 65 < cLine) : MtR X "dict.get" (rGet2 X) := by
  intro pins s σ H x xs v us Q I rx rxs h
  obtain ⟨y, d, o, rfl, l, q⟩ := h
  cases rxs with
  | cons ry rest =>
    cases rest with
    | cons rdv rest =>
      cases rest
      rename_i u uv
      obtain ⟨a, rfl, g⟩ := id l
      cases (show v = Value.ref a from rx)
      rcases g with g | ⟨b, kvs, nkey, ι, S, ks, dd, rfl, h, nd, qk, rl, dk, rb, ov⟩
      · exact d_get2 (by omega) I g ry rdv fun w s2 I2 rw2 => ⟨o.getD d, H, I2, rw2, q⟩
      · cases (show u = Value.ref b from ry)
        obtain ⟨y2, xs, hm, pr⟩ := nd_of2 I h nd qk rl
        refine call_meetsIn PySem.F.slot_dict_get hm.typeIs PySem.F.entry_dict_get (PySem.F.args_dict_get_3 _ _ _) (meetsH_dict_get_default (nestedKind X.prog X.w) a b y2 uv) ⟨by show X.A.units + 1 + 8 < cLine; omega, nkey, xs, key_is I dk rb rfl, hm, o.getD d, H, I.tok _, ?_, q⟩
        have rel := nVal_at pr nkey
        rw [← ov] at rel
        cases o with
        | none => cases z : (atKey xs nkey).map (·.2) with
          | none => exact rdv
          | some w => rw [z] at rel; exact rel.elim
        | some w => cases z : (atKey xs nkey).map (·.2) with
          | none => rw [z] at rel; exact rel.elim
          | some w2 => rw [z] at rel; exact rel
theorem ok_get2 : MOk X W (rGet2 X) getD2 := by
  intro σ ι S H x xs d ds Q rs rx rxs h
  unfold getD2 at h
  match ds, rxs, h with
  | [y, v], .cons (x := yy) ry (.cons (x := vv) rv .nil), h =>
    dsimp only at h
    cases z : dLook d y S with
    | none => rw [z] at h; exact h.elim
    | some o =>
      rw [z] at h
      obtain ⟨ov, l, g1, g2⟩ := lk_of rs rx ry z
      cases o with
      | none =>
        rw [g2 rfl] at l
        exact ⟨yy, vv, none, rfl, l, fun _ => Out.now h rs _ rv⟩
      | some u =>
        obtain ⟨w, rfl, rw2⟩ := g1 u rfl
        exact ⟨yy, vv, some w, rfl, l, fun _ => Out.now h rs _ rw2⟩
  | [], .nil, h => exact h.elim
  | [_], .cons _ .nil, h => exact h.elim
  | _ :: _ :: _ :: _, _, h => exact h.elim
/-! ### methods of dicts of any keys -/
def DT (X : Cx) (H : Hp) (x : V) : Prop := ∃ a, x = .ref a ∧ ((∃ kvs, Rd H a (.dK kvs)) ∨ ∃ kvs, Rd H a (NDO X.prog X.w a kvs))
theorem dt_is {pins : List (Addr × Obj)} {σ : L2.St} {H : Hp} {s : Shared} {x : V} {v : Value} (I : Inv X pins σ H s) (r : RelV x v) (d : DT X H x) : s.TypeIs v "dict" ∧ ∀ a, v = .ref a → ∃ ob, s.heap.get? a = some ob ∧ ob.dict = none := by
  obtain ⟨a, rfl, ⟨kvs, e⟩ | ⟨kvs, e⟩⟩ := d
  · cases (show v = Value.ref a from r)
    obtain ⟨_, ns, vs, kv, o, es, ep, h1, h2, h3, _⟩ := Rd.ok e I.hok
    exact ⟨⟨_, h1, h2.1⟩, fun b hb => by cases hb; exact ⟨_, h1, h2.2.1⟩⟩
  · cases (show v = Value.ref a from r)
    obtain ⟨⟨ns, o, es, ep, xs, h1, h2, h3, h4, pr⟩, _⟩ := Rd.ok e I.hok
    exact ⟨⟨_, h1, h2.1⟩, fun b hb => by cases hb; exact ⟨_, h1, h2.2.1⟩⟩
def isDct (d : D) (S : Store) : Bool := match rd d S with
  | some (.dct _ _ _) => true
  | _ => false
theorem isDct_ty {ι : Pl} {S : Store} {H : Hp} {v : V} {d : D} (rs : RS X.prog X.w X.K ι S H) (rv : Rel X.prog X.w X.K ι S H v d) (h : isDct d S = true) : DT X H v := by
  unfold isDct at h
  cases e1 : rd d S with
  | none => rw [e1] at h; cases h
  | some d1 =>
    rw [e1] at h
    have v1 := vw_of rs rv e1
    cases d1 with
    | dct b ks vs =>
      cases v1 with
      | oth _ no => exact no.elim
      | dctK e nd rl => exact ⟨_, rfl, .inl ⟨_, e⟩⟩
      | dctN e nd q r1 r2 => exact ⟨_, rfl, .inr ⟨_, e⟩⟩
    | _ => cases h
def tDM (X : Cx) (r : V → List V → Hp → VK → Prop) (to : TE) (t : TA) : TE := fun σ H Q => to σ H fun x H1 => DT X H1 x ∧ t σ H1 fun xs H2 => r x xs H2 Q
def tDM0 (X : Cx) (r : V → List V → Hp → VK → Prop) (to : TE) : TE := fun σ H Q => to σ H fun x H1 => DT X H1 x ∧ r x [] H1 Q
theorem pe_dm {id : String} {name : Str} {R : V → List V → Hp → VK → Prop} {to : TE} {t : TA} (slot : Slot "dict" name id) (hty : typeOf (.builtin id) = pure (.type "method_descriptor")) (hm : MtR X id R) (ho : PE X o to) (ha : PA X (e :: es) t)
    (h1 : attributeBase o name X.env (eval o X.env) = eval o X.env := by rfl)
    (h2 : ((backTo pos (starEach (e :: es) X.env)).all (fun x => !x.1) && (backToKw pos (keywordEach [] X.env)).all (fun x => x.1.isSome) && decide ((e :: es).length + ([] : List Keyword).length + (if ([] : List Keyword).isEmpty then 0 else 1) < 30)) = true := by rfl)
    (h3 : (apos.endLine == pos.line) = true := by rfl) (h4 : starEach (e :: es) X.env = (false, eval e X.env) :: starEach es X.env := by rfl) (h5 : (backTo pos (starEach es X.env)).any (·.1) = false := by rfl) :
    PE X (.Call (.Attribute o name apos) (e :: es) [] pos) (tDM X R to t) := by
  refine ⟨fun pins s σ H Q I h => wpAny_Call_method_late h1 h2 h3 rfl (thn (ho.run pins s σ H _ I h) fun v s1 ⟨x, H1, I1, r1, dt, q1⟩ => ?_)⟩
  obtain ⟨t1, t2⟩ := dt_is I1 r1 dt
  refine ⟨"dict", id, PySem.F.plainAttrs_dict, slot, hty, t1, t2, ?_⟩
  have hA := ha.run pos pins s1 σ H1 _ I1 q1
  rw [h4] at hA ⊢
  exact Calls.callWith_builtin (by show (false || (backTo pos (starEach es X.env)).any (·.1)) = false; rw [h5]; rfl) (Calls.evalArgs_plain (thn hA fun us s2 ⟨vs, H2, I2, r2, q2⟩ => hm pins s2 σ H2 x vs v us Q I2 r1 r2 q2))
theorem pe_dm0 {id : String} {name : Str} {R : V → List V → Hp → VK → Prop} {to : TE} (slot : Slot "dict" name id) (hty : typeOf (.builtin id) = pure (.type "method_descriptor")) (hm : MtR X id R) (ho : PE X o to)
    (h1 : attributeBase o name X.env (eval o X.env) = eval o X.env := by rfl) (h3 : (apos.endLine == pos.line) = true := by rfl) : PE X (.Call (.Attribute o name apos) [] [] pos) (tDM0 X R to) := by
  refine ⟨fun pins s σ H Q I h => wpAny_Call_method0_late h1 h3 (thn (ho.run pins s σ H _ I h) fun v s1 ⟨x, H1, I1, r1, dt, q1⟩ => ?_)⟩
  obtain ⟨t1, t2⟩ := dt_is I1 r1 dt
  exact ⟨"dict", id, PySem.F.plainAttrs_dict, slot, hty, t1, t2, Calls.callWith_builtin rfl (PySem.evalArgs_none (hm pins s1 σ H1 x [] v [] Q I1 r1 .nil q1))⟩
theorem se_dm {id : String} {name : Str} {R : V → List V → Hp → VK → Prop} {f : D → List D → Store → Res D} (slot : Slot "dict" name id) (hty : typeOf (.builtin id) = pure (.type "method_descriptor")) (hm : MtR X id R) (mok : MOk X W R f) (ho : SE X W o mo) (ha : SA X W (e :: es) r)
    (h1 : attributeBase o name X.env (eval o X.env) = eval o X.env := by rfl)
    (h2 : ((backTo pos (starEach (e :: es) X.env)).all (fun x => !x.1) && (backToKw pos (keywordEach [] X.env)).all (fun x => x.1.isSome) && decide ((e :: es).length + ([] : List Keyword).length + (if ([] : List Keyword).isEmpty then 0 else 1) < 30)) = true := by rfl)
    (h3 : (apos.endLine == pos.line) = true := by rfl) (h4 : starEach (e :: es) X.env = (false, eval e X.env) :: starEach es X.env := by rfl) (h5 : (backTo pos (starEach es X.env)).any (·.1) = false := by rfl) :
    SE X W (.Call (.Attribute o name apos) (e :: es) [] pos) (eMth isDct f mo r) := by
  refine PE.use (pe_dm slot hty hm ho ha h1 h2 h3 h4 h5) fun σ H Q kf q => ?_
  obtain ⟨ι, S, ρ, rs, er, h⟩ := q kf
  refine fun _ => ⟨ι, S, ρ, rs, er, Out.mono (Out.bind h) fun ι1 S1 H1 d st1 rs1 h1 x rx => ?_⟩
  by_cases z : isDct d S1 = true
  · rw [if_pos z] at h1
    refine ⟨isDct_ty rs1 rx z, fun _ => ⟨ι1, S1, ρ, rs1, er.mono st1 rs1, Out.mono (Out.bind h1) fun ι2 S2 H2 ds st2 rs2 h2 xs rxs => mok σ ι2 S2 H2 x xs d ds Q rs2 (Rel.mono st2 rs2 _ _ rx) rxs h2⟩⟩
  · rw [if_neg z] at h1
    exact h1.elim
theorem se_get2 (A : Amb X sc ow N k) (ho : SE X W o mo) (ha : SA X W [a, b] r) (h1 : attributeBase o "get" X.env (eval o X.env) = eval o X.env := by rfl) (h3 : (apos.endLine == pos.line) = true := by rfl) (h4 : starEach [a, b] X.env = [(false, eval a X.env), (false, eval b X.env)] := by rfl) (h5 : starEach [b] X.env = [(false, eval b X.env)] := by rfl) :
    SE X W (.Call (.Attribute o "get" apos) [a, b] [] pos) (eMth isDct getD2 mo r) :=
  se_dm PySem.F.slot_dict_get PySem.F.type_dict_get (mt_get2 A.units) ok_get2 ho ha (h1 := h1) (h2 := by rw [h4]; rfl) (h3 := h3) (h4 := by rw [h4, h5]) (h5 := by rw [h5]; rfl)
/-! ### all, any of a list of bools -/
def blsOf : List D → Option (List Bool)
  | [] => some []
  | .bl b :: ds => (blsOf ds).map (b :: ·)
  | _ => none
theorem bls_rel {P : Program} {w : World} {K : PySem.W.Frag} {ι : Pl} {S : Store} {H : Hp} : ∀ {ds : List D} {xs : List V} {bs : List Bool}, blsOf ds = some bs → RelL P w K ι S H xs ds → xs = bs.map V.bl
  | [], _, _, h, r => by cases r; cases h; rfl
  | .bl b :: ds, _, _, h, r => by
    cases r with
    | cons r1 r2 =>
      cases r1
      simp only [blsOf] at h
      cases z : blsOf ds with
      | none => rw [z] at h; cases h
      | some bs => rw [z] at h; cases h; rw [bls_rel z r2]; rfl
  | .non :: _, _, _, h, _ => by cases h
  | .int _ :: _, _, _, h, _ => by cases h
  | .str _ :: _, _, _, h, _ => by cases h
  | .tup _ :: _, _, _, h, _ => by cases h
  | .lst _ :: _, _, _, h, _ => by cases h
  | .dct _ _ _ :: _, _, _, h, _ => by cases h
  | .loc _ :: _, _, _, h, _ => by cases h
  | .rng _ _ :: _, _, _, h, _ => by cases h
  | .clo _ _ :: _, _, _, h, _ => by cases h
theorem bools_of : ∀ {bs : List Bool} {us : List Value}, Vals (bs.map V.bl) us → LSm.BoolsAre us bs
  | [], _, .nil => .nil
  | b :: bs, _, .cons r t => by
    rw [show _ = Value.bool b from r]
    exact .cons b (bools_of t)
def rAll (K : PySem.W.Frag) (f : List Bool → Bool) : List V → Hp → VK → Prop := fun xs H Q => ∃ (l : Addr) (bs : List Bool), xs = [V.ref l] ∧ SqL K H l (bs.map V.bl) ∧ Q (.bl (f bs)) H
theorem cr_all (hc : X.calm = true) : CallR X (.builtin "all") (rAll X.K fun bs => bs.all id) := by
  intro pins s σ H xs us Q I r h
  obtain ⟨l, bs, rfl, hl, q⟩ := h
  rw [Vals.ref1 r]
  obtain ⟨its, rv, pl, hz⟩ := I.list hl
  have hb := bools_of rv
  have hL := pl.isList
  have lt : l < s.heap.objs.size := by obtain ⟨_, e, _⟩ := hL; exact Heap.lt_size e
  refine call_all_walk (wpAny_pyIter_list hL ⟨s.heap.objs.size, [s.heap.objs.size, l], [s.heap.objs.size], its.toArray.size, _, _, fun i => (bs[i]?).getD true, rfl, Walks.list (A := X.A.in1) (I.ok.hd hc) _ l (Nat.ne_of_lt lt) its.toArray, ⟨⟨_, Heap.get?_push_size _ rfl, rfl, rfl⟩, hL.push _⟩, fun i v s' Q' E' hP hQ => ?_, fun h' tk hk => ?_⟩)
  · obtain ⟨b, e, rfl⟩ := hb.get i v (by simpa using hP)
    dsimp only at hQ; rw [e] at hQ
    exact wpAny_truthy_bool hQ
  · have e : ((List.range its.toArray.size).all fun i => (bs[i]?).getD true) = bs.all id := by rw [List.size_toArray, hb.length, LSm.range_all]
    rw [e]
    exact ⟨.bl _, H, I.kept (LSm.kept_iter hk), rfl, q⟩
theorem cr_any (hc : X.calm = true) : CallR X (.builtin "any") (rAll X.K fun bs => bs.any id) := by
  intro pins s σ H xs us Q I r h
  obtain ⟨l, bs, rfl, hl, q⟩ := h
  rw [Vals.ref1 r]
  obtain ⟨its, rv, pl, hz⟩ := I.list hl
  have hb := bools_of rv
  have hL := pl.isList
  have lt : l < s.heap.objs.size := by obtain ⟨_, e, _⟩ := hL; exact Heap.lt_size e
  refine call_any_walk (wpAny_pyIter_list hL ⟨s.heap.objs.size, [s.heap.objs.size, l], [s.heap.objs.size], its.toArray.size, _, _, fun i => (bs[i]?).getD false, rfl, Walks.list (A := X.A.in1) (I.ok.hd hc) _ l (Nat.ne_of_lt lt) its.toArray, ⟨⟨_, Heap.get?_push_size _ rfl, rfl, rfl⟩, hL.push _⟩, fun i v s' Q' E' hP hQ => ?_, fun h' tk hk => ?_⟩)
  · obtain ⟨b, e, rfl⟩ := hb.get i v (by simpa using hP)
    dsimp only at hQ; rw [e] at hQ
    exact wpAny_truthy_bool hQ
  · have e : ((List.range its.toArray.size).any fun i => (bs[i]?).getD false) = bs.any id := by rw [List.size_toArray, hb.length, LSm.range_any]
    rw [e]
    exact ⟨.bl _, H, I.kept (LSm.kept_iter hk), rfl, q⟩
def allD (f : List Bool → Bool) (ds : List D) (S : Store) : Res D := match ds with
  | [d] => (match rd d S with
    | some (.lst l) => (match blsOf l with
      | some bs => .ok (.bl (f bs)) S
      | none => .bad)
    | _ => .bad)
  | _ => .bad
theorem ok_all {f : List Bool → Bool} : BOk X W (rAll X.K f) (allD f) := by
  intro σ ι S H xs ds Q rs rx h
  match ds, rx, h with
  | [d], .cons r1 .nil, h =>
    unfold allD at h
    dsimp only at h
    cases e1 : rd d S with
    | none => rw [e1] at h; exact h.elim
    | some d1 =>
      rw [e1] at h
      have v1 := vw_of rs r1 e1
      cases d1 with
      | lst l =>
        dsimp only at h
        cases e2 : blsOf l with
        | none => rw [e2] at h; exact h.elim
        | some bs =>
          rw [e2] at h
          cases v1 with
          | oth _ no => exact no.elim
          | lst s1 r1 => exact ⟨_, bs, rfl, by rw [← bls_rel e2 r1]; exact s1, fun _ => Out.now h rs _ (.bl _)⟩
      | _ => exact h.elim
theorem se_all (A : Amb X sc ow N k) (hm : X.mg "all" = none) (hg : glB sc "all" = true) (ha : SE X W e ma) (hs : starEach [e] X.env = [(false, eval e X.env)] := by rfl) : SE X W (.Call (.Name "all" p) [e] [] pos) (eBlt (allD fun bs => bs.all id) (aOne ma)) :=
  se_blt A (cr_all A.calm) ok_all hm hg (sa_cons ha sa_nil hs) (hv := by decide +kernel) (h1 := hs) (h2 := rfl)
theorem se_any (A : Amb X sc ow N k) (hm : X.mg "any" = none) (hg : glB sc "any" = true) (ha : SE X W e ma) (hs : starEach [e] X.env = [(false, eval e X.env)] := by rfl) : SE X W (.Call (.Name "any" p) [e] [] pos) (eBlt (allD fun bs => bs.any id) (aOne ma)) :=
  se_blt A (cr_any A.calm) ok_all hm hg (sa_cons ha sa_nil hs) (hv := by decide +kernel) (h1 := hs) (h2 := rfl)
/-! ### sorted(d), the keys whole numbers -/
theorem keys_ints {ds : List D} {ns : List Int} (h : intsOf ds = some ns) : ds = ns.map D.int := by
  induction ds generalizing ns with
  | nil => cases h; rfl
  | cons d ds ih =>
    cases d with
    | int i =>
      simp only [intsOf] at h
      cases z : intsOf ds with
      | none => rw [z] at h; cases h
      | some ms => rw [z] at h; cases h; rw [ih z]; rfl
    | _ => cases h
def rSortDI (X : Cx) : List V → Hp → VK → Prop := fun xs H Q => ∃ (a : Addr) (kvs : List (Key × V)) (ns : List Int), xs = [V.ref a] ∧ Rd H a (.dK kvs) ∧ kvs.map (·.1) = ns.map (Sum.inl : Int → Key) ∧
  ∀ (ι : Pl) (S : Store) p zs, H p = none → RelL X.prog X.w X.K ι S H zs ((ns.map D.int).mergeSort leS) → Q (.ref p) (upd H p (.lst zs))
theorem each_int {α : Type} {f : α → Int} : ∀ {vs : List Value} {as : List α}, vs.length = as.length → (∀ (j : Nat) (v : Value) (a : α), vs[j]? = some v → as[j]? = some a → ∃ t, v = Value.int (f a) t) → PySem.W.EachIs (fun v (d : D) => ∃ i t, v = Value.int i t ∧ d = D.int i) vs (as.map fun a => D.int (f a))
  | [], [], _, _ => .nil
  | [], _ :: _, h, _ => by cases h
  | _ :: _, [], h, _ => by cases h
  | v :: vs, a :: as, h, g => by
    obtain ⟨t, e⟩ := g 0 v a rfl rfl
    exact .cons ⟨_, t, e, rfl⟩ (each_int (by simpa using h) fun j v a h1 h2 => g (j + 1) v a (by simpa using h1) (by simpa using h2))
theorem back_int {P : Program} {w : World} {K : PySem.W.Frag} {ι : Pl} {S : Store} {H : Hp} : ∀ {out : List Value} {ds : List D}, PySem.W.EachIs (fun v (d : D) => ∃ i t, v = Value.int i t ∧ d = D.int i) out ds → ∃ zs, Vals zs out ∧ RelL P w K ι S H zs ds
  | _, _, .nil => ⟨[], .nil, .nil⟩
  | _, _, .cons ⟨i, t, h1, h2⟩ r => by
    obtain ⟨zs, g1, g2⟩ := back_int r
    subst h1 h2
    exact ⟨.int i :: zs, .cons ⟨t, rfl⟩ g1, .cons (.int i) g2⟩
theorem cr_sortDI (hu : X.A.units + 65 < cLine) (hc : X.calm = true) : CallR X (.builtin "sorted") (rSortDI X) := by
  intro pins s σ H xs us Q I r h
  obtain ⟨a, kvs, ns, rfl, e, hk, q⟩ := h
  rw [Vals.ref1 r]
  obtain ⟨small, sm, vs, kv, dd⟩ := Rd.ok e I.hok
  obtain ⟨ep, hat⟩ := dd.dictAt
  have hlen : vs.length = ns.length := by rw [← Paired.length kv, ← List.length_map (f := (·.1)), hk, List.length_map]
  have hkv : kvs.length = ns.length := by rw [← List.length_map (f := (·.1)), hk, List.length_map]
  have room : ns.length ≤ sizeLine := by rw [← hkv]; exact small
  have keyAt : ∀ (j : Nat) (k : Key) (x : Value), vs[j]? = some (k, x) → ∃ n, ns[j]? = some n ∧ k = Sum.inl n := by
    intro j k x hv
    have go : ∀ {l : List (Key × V)} {m : List (Key × Value)} {ms : List Int}, KV l m → l.map (·.1) = ms.map (Sum.inl : Int → Key) → ∀ (j : Nat) (k : Key) (x : Value), m[j]? = some (k, x) → ∃ n, ms[j]? = some n ∧ k = Sum.inl n := by
      intro l m ms pr
      induction pr generalizing ms with
      | nil => intro _ j k x h; simp at h
      | cons h t ih =>
        intro hm j k x hx
        cases ms with
        | nil => cases hm
        | cons n ms =>
          simp only [List.map_cons, List.cons.injEq] at hm
          cases j with
          | zero => simp at hx; exact ⟨n, rfl, by rw [← hm.1, h.1, hx]⟩
          | succ j => simpa using ih hm.2 j k x (by simpa using hx)
    exact go kv hk j k x hv
  refine PySem.Calls.call_function_entry PyProof.Rows.kind_sorted PyProof.Rows.plain_sorted PyProof.Rows.entry_sorted (PyProof.Rows.args_sorted1 _) ?_
  unfold Builtin.«sorted»
  refine wpAny_bind (m := checkCount "sorted" 1 1 _) (wpAny_pure (wpAny_bind (PySem.W.kdu_collect (A := X.A.in1) (PySem.W.kdl_dict (knd := mixKind X.prog X.w) (kvs := vs) (ep := ep) sm) (by simpa using I.ok.hd hc) hat (by rw [hlen]; exact room) fun h' tk acc keep items => ?_)))
  have al : acc.toList.length = ns.length := by rw [Array.length_toList, items.1, hlen]
  refine wpAny_bind (wpAny_newList ?_ (by rw [al]; exact room))
  have each := each_int (f := fun (n : Int) => n) (vs := acc.toList) (as := ns) al fun j v n h1 h2 => by
    obtain ⟨k, x, hx, hi⟩ := items.2 j v (by rw [← Array.getElem?_toList]; exact h1)
    obtain ⟨n2, hn2, rfl⟩ := keyAt j k x hx
    rw [h2] at hn2
    cases hn2
    have hi : keyIs (Sum.inl n) v = true := hi
    rcases keyIs_shape hi with ⟨i, t, e1, e2⟩ | ⟨y, t, e1, e2⟩
    · first | exact ⟨t, by rw [e1, Sum.inl.inj e2]⟩ | exact ⟨t, by rw [e2, Sum.inl.inj e1]⟩
    · first | exact absurd e2 (by simp) | exact absurd e1 (by simp)
  have at1 : (h'.push { cls := .type "list", data := .seq acc.toList.toArray }).get? h'.objs.size = some (seqObj "list" acc.toList.toArray 0) := Heap.get?_push_size _ rfl
  refine wpAny_bind (wpAny_holding (PySem.W.list_sort_data (A := X.A.in1) (enc := D.py) (bs := ns.map fun n => D.int n) at1 each (each.mono fun v d ⟨i, t, h1, h2⟩ => ⟨[], by rw [h1, h2]; exact Reads.int i t, by simp⟩) ?_ ?_ (by rw [List.length_map]; exact room) (fun b hb => ?_) fun out ho eo => wpAny_pure ⟨_, rfl, ?_⟩))
  · intro d hd d' hd'
    obtain ⟨x, hx, rfl⟩ := List.mem_map.mp hd
    obtain ⟨x', hx', rfl⟩ := List.mem_map.mp hd'
    obtain ⟨n, _, rfl⟩ := List.mem_map.mp hx
    obtain ⟨n', _, rfl⟩ := List.mem_map.mp hx'
    rfl
  · refine .inr fun d hd => ?_
    obtain ⟨x, hx, rfl⟩ := List.mem_map.mp hd
    obtain ⟨n, _, rfl⟩ := List.mem_map.mp hx
    exact ⟨by simp [D.py], by simp [D.py]⟩
  · obtain ⟨n, _, rfl⟩ := List.mem_map.mp hb
    show X.A.units + 1 + 1 + (0 : Nat) < cLine
    omega
  · obtain ⟨zs, g1, g2⟩ := back_int (P := X.prog) (w := X.w) (K := X.K) (ι := ⟨[], []⟩) (S := []) (H := H) eo
    obtain ⟨c, at2⟩ := PyProof.Rows.sortedHeap_at (out := out.toArray) at1
    have hp0 : s.heap.get? h'.objs.size = none := by
      cases z : s.heap.get? h'.objs.size with
      | none => rfl
      | some o => exact absurd (Heap.lt_size (keep _ _ z)) (Nat.lt_irrefl _)
    have hn0 : H h'.objs.size = none := (I.hok.kept keep).fresh (Nat.le_refl _)
    have new : ObjOk X.prog X.w (upd H h'.objs.size (.lst zs)) (sortedHeap (h'.push { cls := .type "list", data := .seq acc.toList.toArray }) h'.objs.size acc.toList out.toArray) h'.objs.size (.lst zs) := ⟨by rw [g1.length, ho, List.length_map]; exact room, out, c, g1, at2⟩
    refine ⟨.ref _, _, I.laidN (t' := tk) (fun b o z => ?_) hp0 hn0 new, rfl, q ⟨[], []⟩ [] _ zs hn0 g2⟩
    have z2 := keep b o z
    have lt := Heap.lt_size z2
    rw [PyProof.Rows.sortedHeap_old (Nat.ne_of_lt lt) (by rw [size_push']; exact Nat.lt_succ_of_lt lt)]
    exact Heap.get?_push_of_some _ z2
def sortDI (ds : List D) (S : Store) : Res (List D) := match ds with
  | [d] => (match rd d S with
    | some (.dct false ks _) => (match intsOf ks with
      | some _ => .ok (isrt ks) S
      | none => .bad)
    | _ => .bad)
  | _ => .bad
theorem ok_sortDI : BOkL X W (rSortDI X) sortDI := by
  intro σ ι S H xs ds Q rs rx h
  match ds, rx, h with
  | [d], .cons r1 .nil, h =>
    unfold sortDI at h
    dsimp only at h
    cases e1 : rd d S with
    | none => rw [e1] at h; exact h.elim
    | some d1 =>
      rw [e1] at h
      have v1 := vw_of rs r1 e1
      cases d1 with
      | dct b ks vs =>
        cases b with
        | true => exact h.elim
        | false =>
          dsimp only at h
          cases e2 : intsOf ks with
          | none => rw [e2] at h; exact h.elim
          | some ns =>
            rw [e2] at h
            dsimp only at h
            have ek := keys_ints e2
            cases v1 with
            | oth _ no => exact no.elim
            | dctK e nd rl =>
              rename_i kvs
              have kk : kvs.map (·.1) = ns.map (Sum.inl : Int → Key) := by
                have go : ∀ {l : List (Key × V)} {ms : List Int}, (l.map fun p => keyD p.1) = ms.map D.int → l.map (·.1) = ms.map (Sum.inl : Int → Key) := by
                  intro l
                  induction l with
                  | nil => intro ms h; cases ms with
                    | nil => rfl
                    | cons _ _ => cases h
                  | cons p l ih =>
                    intro ms h
                    cases ms with
                    | nil => cases h
                    | cons m ms =>
                      simp only [List.map_cons, List.cons.injEq] at h ⊢
                      refine ⟨?_, ih h.2⟩
                      cases z : p.1 with
                      | inl i => rw [z] at h; have := h.1; simp only [keyD, D.int.injEq] at this; rw [this]
                      | inr x => rw [z] at h; exact absurd h.1 (by simp [keyD])
                exact go ek
              refine ⟨_, kvs, ns, rfl, e, kk, fun ι' S' p zs hp rz kf => Out.now h rs p zs hp ?_⟩
              rw [isrt_eq, ek]
              have z : RelL X.prog X.w X.K ι S H zs ((ns.map D.int).mergeSort leS) := by
                have onlyI : ∀ (l : List D) (vs : List V), (∀ d ∈ l, ∃ i, d = D.int i) → RelL X.prog X.w X.K ι' S' H vs l → RelL X.prog X.w X.K ι S H vs l := by
                  intro l
                  induction l with
                  | nil => intro vs _ r; cases r; exact .nil
                  | cons d l ih =>
                    intro vs hd r
                    obtain ⟨i, rfl⟩ := hd d List.mem_cons_self
                    cases r with
                    | cons r1 r2 => cases r1; exact .cons (.int i) (ih _ (fun d h => hd d (List.mem_cons_of_mem _ h)) r2)
                refine onlyI _ _ (fun d hd => ?_) rz
                obtain ⟨i, _, rfl⟩ := List.mem_map.mp ((List.mergeSort_perm _ _).mem_iff.mp hd)
                exact ⟨i, rfl⟩
              exact z
      | _ => exact h.elim
theorem sl_sortedD (A : Amb X sc ow N k) (hm : X.mg "sorted" = none) (hg : glB sc "sorted" = true) (ha : SE X W e ma) (hs : starEach [e] X.env = [(false, eval e X.env)] := by rfl) : SL X W (.Call (.Name "sorted" p) [e] [] pos) (lBlt sortDI (aOne ma)) :=
  sl_blt A (cr_sortDI A.units A.calm) ok_sortDI hm hg (sa_cons ha sa_nil hs) (hv := by decide +kernel) (h1 := hs) (h2 := rfl)
end
end Mi
set_option linter.all false
set_option maxRecDepth 100000
/-! Mi, part Z: calls by names; is True; what is never reached. -/
namespace Mi
open PySem PySem.Spec PyProof.Rows L2
def pickL {α : Type} (z : α) (π : List Nat) (l : List α) : List α := π.map fun i => l.getD i z
theorem pick_vals {zs : List V} {ws : List Value} (h : Vals zs ws) : ∀ {π : List Nat}, (∀ i ∈ π, i < ws.length) → Vals (pickL .non π zs) (pickL .none π ws)
  | [], _ => .nil
  | i :: π, hi => by
    have at_ : ∀ {zs : List V} {ws : List Value}, Vals zs ws → ∀ i, i < ws.length → RelV (zs.getD i .non) (ws.getD i .none) := by
      intro zs ws h
      induction h with
      | nil => intro i hi; simp at hi
      | cons r t ih =>
        intro i hi
        cases i with
        | zero => exact r
        | succ i => exact ih i (by simpa using hi)
    exact .cons (at_ h i (hi i List.mem_cons_self)) (pick_vals h fun j hj => hi j (List.mem_cons_of_mem _ hj))
theorem pick_rel {P : Program} {w : World} {K : PySem.W.Frag} {ι : Pl} {S : Store} {H : Hp} {xs : List V} {ds : List D} (h : RelL P w K ι S H xs ds) : ∀ {π : List Nat}, (∀ i ∈ π, i < ds.length) → RelL P w K ι S H (pickL .non π xs) (pickL .non π ds)
  | [], _ => .nil
  | i :: π, hi => by
    have hlt := hi i List.mem_cons_self
    obtain ⟨v, e, r⟩ := RelL.get h (List.getElem?_eq_getElem hlt)
    have e1 : xs.getD i .non = v := by rw [List.getD_eq_getElem?_getD, e]; rfl
    have e2 : ds.getD i .non = ds[i] := by rw [List.getD_eq_getElem?_getD, List.getElem?_eq_getElem hlt]; rfl
    refine RelL.cons ?_ (pick_rel h fun j hj => hi j (List.mem_cons_of_mem _ hj))
    show Rel P w K ι S H (xs.getD i .non) (ds.getD i .non)
    rw [e1, e2]
    exact r
/-- a def of the module, called by names alone: π tells which of the values each parameter has -/
structure FnK (P : Program) (w : World) (K : PySem.W.Frag) (mg : Str → Option Value) (base : Heap) (x : Str) (lv : Nat) (ks : List Str) (π : List Nat) (f : FM) : Prop where
  ex : ∃ (a : Addr) (fd : FuncData) (ps : List Str), FnG P w K mg base lv a fd ps (spF P w K π.length f) ∧ mg x = some (.ref a) ∧ PySem.W.keepIn K (.ref a) = true ∧ (∀ i ∈ π, i < ks.length) ∧
    ∀ (s : Shared) (ws : List Value), ws.length = ks.length → BindsTo s fd ⟨[], ks.zip ws⟩ (ps.zip (pickL .none π ws))
theorem fn_kat {P : Program} {w : World} {K : PySem.W.Frag} {mg : Str → Option Value} {base h : Heap} {x : Str} {st : Stmt} {N ps : List Str} {k : Nat} {m : SM} (ks : List Str) (π : List Nat) (kin : K.In h) (G : h.Ns mainGlobals mg) (Df : DefAt K x st) (S : FnScope N ps (defScope st)) (hp : ps.length = π.length) (hi : ∀ i ∈ π, i < ks.length)
    (hb : ∀ (kV doc pm : Value) (an : Option Addr) (cdv ct : Value) (ws : List Value), ws.length = ks.length → bindArgs (PySem.W.fnOf x x (defArgs st) (defBody st) (defScope st) .none kV doc pm an cdv ct) ⟨[], ks.zip ws⟩ = pure (ps.zip (pickL .none π ws)))
    (body : ∀ (X : Cx), Amb X (defScope st) (defScope st).names N k → X.prog = P → X.w = w → X.K = K → X.mg = mg → X.base = base → SSs X W0 (defBody st) m) : FnK P w K mg base x (k + 1) ks π (runF N.length m) := by
  obtain ⟨a, fd, F, at_⟩ := Df.ex
  have G1 := fnG_mi F S body
  rw [hp] at G1
  refine ⟨a, fd, ps, G1, PySem.W.mg_of kin G at_, F.kp, hi, fun s ws hl => ?_⟩
  obtain ⟨oc, od, kV, doc, pm, an, cdv, ct, osl, rfl, _, _⟩ := F.ex
  exact .of_eq (hb kV doc pm an cdv ct ws hl)
section
variable {X : Cx} {W : WE} {sc : Scope} {ow : List (Str × NameKind)} {N : List Str} {k : Nat}
variable {a b e o tg : Expr} {ma mb mo : EM} {pos apos p : Pos} {es : List Expr} {r : AM}
/-- the values of the keywords -/
abbrev SK (X : Cx) (W : WE) (kws : List Keyword) (m : AM) : Prop := PK X kws (rA X.prog X.w X.K W m)
theorem sk_nil : SK X W [] aNil := ⟨fun pos pins s σ H Q I q => by
  obtain ⟨ι, S, ρ, rs, er, h⟩ := q (invKF I)
  exact (pk_nil (X := X)).run pos pins s σ H Q I (Out.now h rs [] .nil)⟩
theorem sk_cons {nm : Option Str} {kp : Pos} {kws : List Keyword} (ha : SE X W a ma) (hr : SK X W kws r) : SK X W (⟨nm, a, kp⟩ :: kws) (aCons ma r) := ⟨fun pos pins s σ H Q I q => by
  obtain ⟨ι, S, ρ, rs, er, h⟩ := q (invKF I)
  refine (pk_cons (nm := nm) (kpos := kp) ha hr).run pos pins s σ H Q I ?_
  refine fun _ => ⟨ι, S, ρ, rs, er, Out.mono (Out.bind h) fun ι1 S1 H1 dx st1 rs1 h1 x rx => fun _ => ⟨ι1, S1, ρ, rs1, er.mono st1 rs1, Out.mono (Out.bind h1) fun ι2 S2 H2 ds st2 rs2 h2 xs rxs => ?_⟩⟩
  exact Out.now h2 rs2 (x :: xs) (.cons (Rel.mono st2 rs2 _ _ rx) rxs)⟩
def tGK (sp : Sp) (π : List Nat) (tk : TA) : TE := fun σ H Q => tk σ H fun zs H2 => sp (pickL .non π zs) H2 Q fun _ _ _ => False
/-- f(k = v, ..) -/
def eCallK (cf : FM → List D → Store → Res D) (n : Nat) (π : List Nat) (f : FM) (r : AM) : EM := fun ρ S => (r ρ S).bind fun ds S1 => if ds.length = n then cf f (pickL .non π ds) S1 else .bad
theorem se_callK {cf : FM → List D → Store → Res D} (hcf : CfOk X W cf) (A : Amb X sc ow N k) {x : Str} {j : Nat} {ks : List Str} {π : List Nat} {f : FM} (F : FnK X.prog X.w X.K X.mg X.base x j ks π f) (hj : j ≤ k) {kws : List Keyword} {r : AM} {p pos : Pos} (hg : callB sc x = true) (hk : SK X W kws r)
    (hall : (backToKw pos (keywordEach kws X.env)).all (·.1.isSome) = true := by rfl) (hks : (backToKw pos (keywordEach kws X.env)).filterMap (·.1) = ks := by rfl)
    (hpl : ((backTo pos (starEach [] X.env)).any (·.1) || (backToKw pos (keywordEach kws X.env)).any (·.1.isNone)) = false := by rfl) : SE X W (.Call (.Name x p) [] kws pos) (eCallK cf ks.length π f r) := by
  obtain ⟨a, fd, ps, G1, hm, hkp, hi, hb⟩ := F.ex
  unfold callB at hg
  rw [Bool.and_eq_true, decide_eq_true_eq, Bool.not_eq_true'] at hg
  have gl : Gl X x := by show X.env.scope.names.lookup x = _; rw [A.scope]; exact hg.1
  have main : PE X (.Call (.Name x p) [] kws pos) (fun σ H Q => rA X.prog X.w X.K W r σ H fun zs H2 => zs.length = ks.length ∧ spF X.prog X.w X.K π.length f (pickL .non π zs) H2 Q fun _ _ _ => False) := by
    refine ⟨fun pins s σ H Q I h => wpAny_Call_Name_kw (ld_glob I gl hm ?_ hg.2)⟩
    refine PySem.W.callWith_KW0 (h₀ := X.base) I.ok.mod.kin hkp hall (thn (hk.run pos pins s σ H _ I h) fun ws s2 ⟨zs, H2, I2, rz, hl, q2⟩ => ⟨I2.kIn, ?_⟩) hpl
    rw [hks]
    have wl : ws.length = ks.length := rz.length.symm.trans hl
    refine wpAny_call (codeAny_mono (G1.does X.A X.stack s2 H2 ⟨[], ks.zip ws⟩ (pickL .none π ws) (pickL .non π zs) Q (fun _ _ _ => False) (A.room.mono hj) A.grd I2.env0 (hb s2 ws wl) (pick_vals rz fun i z => by rw [wl]; exact hi i z) q2) fun res s3 hq => ?_)
    cases res with
    | error e => exact pass0 pins σ H2 s2 e s3 I2 hq
    | ok fl =>
      cases fl with
      | ret u => exact I2.after hq
      | next => exact hq.elim
      | brk => exact hq.elim
      | cont => exact hq.elim
  refine PE.use main fun σ H Q kf q => ?_
  obtain ⟨ι, S, ρ, rs, er, h⟩ := q kf
  refine fun _ => ⟨ι, S, ρ, rs, er, Out.mono (Out.bind h) fun ι1 S1 H1 ds st1 rs1 h1 xs rx => ?_⟩
  by_cases hl : ds.length = ks.length
  · rw [if_pos hl] at h1
    refine ⟨(RelL.length rx).trans hl, by unfold pickL; simp, fun _ => ?_⟩
    obtain ⟨ι2, S2, ds2, rs2, rl2, o2⟩ := hcf f (pickL .non π ds) (pickL .non π xs) ι1 S1 H1 σ Q rs1 (pick_rel rx fun i z => by rw [hl]; exact hi i z) h1
    exact ⟨ι2, S2, ds2, rs2, rl2, Out.mono o2 fun _ _ _ _ _ _ z x rx _ => z x rx⟩
  · rw [if_neg hl] at h1
    exact h1.elim
/-! ### never reached -/
theorem ss_never {s : Stmt} : SS X W s sBad := ⟨fun pins s σ H D I q => by
  obtain ⟨_, _, _, _, _, h⟩ := q (invKF I)
  exact h.elim⟩
def eBad : EM := fun _ _ => .bad
theorem se_never : SE X W e eBad := ⟨fun pins s σ H Q I q => by
  obtain ⟨_, _, _, _, _, h⟩ := q (invKF I)
  exact h.elim⟩
/-! ### is, is not of bools -/
def isBl (x y : D) (S : Store) : Res Bool := match x, y with
  | .bl a, .bl b => .ok (decide (a = b)) S
  | _, _ => .bad
def notBl (x y : D) (S : Store) : Res Bool := match x, y with
  | .bl a, .bl b => .ok (!decide (a = b)) S
  | _, _ => .bad
theorem ok_isBl : OpOk X W rIsB (fB isBl) := by
  intro σ ι S H x y dx dy Q rs rx ry h
  cases dx with
  | bl a =>
    cases dy with
    | bl b => cases rx; cases ry; exact ⟨a, b, rfl, rfl, fun _ => Out.now h rs _ (.bl _)⟩
    | _ => exact h.elim
  | _ => exact h.elim
theorem ok_notBl : OpOk X W rNotB (fB notBl) := by
  intro σ ι S H x y dx dy Q rs rx ry h
  cases dx with
  | bl a =>
    cases dy with
    | bl b => cases rx; cases ry; exact ⟨a, b, rfl, rfl, fun _ => Out.now h rs _ (.bl _)⟩
    | _ => exact h.elim
  | _ => exact h.elim
theorem st_isBl (ha : SE X W a ma) (hb : SE X W b mb) (hm : behindInMarks .Is b = false := by rfl) : ST X W (.Compare a [.Is] [b] pos) (tOp2 isBl ma mb) := st_cmp op_isBl ok_isBl ha hb hm
theorem st_notBl (ha : SE X W a ma) (hb : SE X W b mb) (hm : behindInMarks .IsNot b = false := by rfl) : ST X W (.Compare a [.IsNot] [b] pos) (tOp2 notBl ma mb) := st_cmp op_notBl ok_notBl ha hb hm
theorem se_isBl (ha : SE X W a ma) (hb : SE X W b mb) (hm : behindInMarks .Is b = false := by rfl) : SE X W (.Compare a [.Is] [b] pos) (eB (tOp2 isBl ma mb)) := se_cmp op_isBl ok_isBl ha hb hm
theorem se_notBl (ha : SE X W a ma) (hb : SE X W b mb) (hm : behindInMarks .IsNot b = false := by rfl) : SE X W (.Compare a [.IsNot] [b] pos) (eB (tOp2 notBl ma mb)) := se_cmp op_notBl ok_notBl ha hb hm
end
end Mi
namespace L_TE
set_option maxHeartbeats 0
open PySem L2 Mi
/-! ### mirrors -/
/-- _law_order: n 0, pairs 1, spots 2, x 3, rows 4, y 5, z 6, w 7 -/
def c1__law_order : AM := lComp [3] (iRange1 (eVar 0)) (gName 3) tYes (eTup (aCons (eVar 3) (aCons (eVar 3) aNil)))
def c2__law_order : AM := lComp [6, 7] (iOf (eVar 2)) (gTup [(gName 6), (gName 7)]) tYes (eIf (tOp2 eqD (eVar 5) (eVar 6)) (eMth isL indD (eVar 2) (aOne (eTup (aCons (eVar 3) (aCons (eVar 7) aNil))))) (eOp1 negD (eC (.int 1))))
def b1__law_order : SM := (sDrop (eMth isL appD (eVar 4) (aOne (eBlt tupD (aOne (eFrz c2__law_order))))))
def l1__law_order : SM := sFor (iOf (eVar 2)) (gTup [(gName 3), (gName 5)]) b1__law_order
def m__law_order : SM := (sSeq (sAsg (eFrz (lOp2 lAdd (eFrz c1__law_order) (eFrz (lBlt sortF (aOne (eVar 1)))))) (gName 2))
    (sSeq (sAsg (eNew (lOf aNil)) (gName 4))
    (sSeq l1__law_order
    (sSeq (sFrz 4) (sRet (eTup (aCons (eVar 0) (aCons (eBlt tupD (aOne (eVar 2))) (aCons (eBlt tupD (aOne (eVar 4))) aNil)))))))))
def f__law_order : FM := runF 8 m__law_order
/-- _law_chain: n 0, pairs 1, y 2, x 3 -/
def c1__law_chain : AM := lComp [3] (iRange1 (eVar 2)) (gName 3) tYes (eTup (aCons (eVar 3) (aCons (eVar 2) aNil)))
def b1__law_chain : SM := (sAsg (eFrz (lOp2 lAdd (eVar 1) (eFrz c1__law_chain))) (gName 1))
def l1__law_chain : SM := sFor (iRange1 (eVar 0)) (gName 2) b1__law_chain
def m__law_chain : SM := (sSeq (sAsg (eFrz (lOf aNil)) (gName 1))
    (sSeq l1__law_chain
    (sRet (eCall callP 2 f__law_order (aCons (eVar 0) (aCons (eVar 1) aNil))))))
def f__law_chain : FM := runF 4 m__law_chain
/-- _law_loops: rows 0, row 1 -/
def c1__law_loops : AM := lComp [1] (iOf (eVar 0)) (gName 1) tYes (eTup (aCons (eC (.int 0)) (aCons (eC (.int 0)) aNil)))
def c2__law_loops : AM := lComp [1] (iOf (eVar 0)) (gName 1) tYes (eBlt tupD (aOne (eVar 1)))
def m__law_loops : SM := (sRet (eTup (aCons (eC (.int 1)) (aCons (eBlt tupD (aOne (eFrz c1__law_loops))) (aCons (eBlt tupD (aOne (eFrz c2__law_loops))) aNil)))))
def f__law_loops : FM := runF 2 m__law_loops
/-- _law_ring: k 0, b 1, a 2 -/
def c1__law_ring : AM := lComp [1] (iRange1 (eVar 0)) (gName 1) tYes (eOp2 modD (eBlt intD (aOne (eOp2 addD (eVar 2) (eVar 1)))) (eVar 0))
def c2__law_ring : AM := lComp [2] (iRange1 (eVar 0)) (gName 2) tYes (eFrz c1__law_ring)
def m__law_ring : SM := (sRet (eCall callP 1 f__law_loops (aCons (eFrz c2__law_ring) aNil)))
def f__law_ring : FM := runF 3 m__law_ring
/-- _law_begun: script 0, k 1, cells 2, great 3, cell 4, seed 5 -/
def c1__law_begun : AM := lComp [4] (iOf (eVar 2)) (gName 4) (tOp2 geD (eVar 4) (eOp2 powD (eC (.int 10)) (eC (.int 18)))) (eVar 4)
def b1__law_begun : SM := (sAsg (eOp2 modD (eBlt intD (aOne (eOp2 addD (eOp2 mulD (eVar 5) (eC (.int 48271))) (eVar 4)))) (eC (.int 2147483647))) (gName 5))
def l1__law_begun : SM := sFor (iOf (eVar 2)) (gName 4) b1__law_begun
def m__law_begun : SM := (sSeq (sAsg (eFrz (lOp2 lAdd (eFrz (sl3 cutL (eVar 0) (oSome (eVar 1)) oNone)) (eFrz (sl3 cutL (eVar 0) oNone (oSome (eVar 1)))))) (gName 2))
    (sSeq (sAsg (eFrz c1__law_begun) (gName 3))
    (sSeq (sAsg (eOp2 addD (eC (.int 71)) (eVar 1)) (gName 5))
    (sSeq l1__law_begun
    (sRet (eDisp ["left", "seed", "cells", "spot"] (aCons (eIf (tOp2 neD (eVar 3) (eFrz (lOf aNil))) (eOp2 idxS (eVar 3) (eC (.int 0))) (eC (.int 0))) (aCons (eVar 5) (aCons (eFrz (lOp2 lAdd (eVar 2) (eFrz (lOf (aCons (eOp2 addD (eOp2 mulD (eC (.int 53)) (eVar 1)) (eC (.int 11))) aNil))))) (aCons (eC (.int 0)) aNil))))))))))
def f__law_begun : FM := runF 6 m__law_begun
/-- _law_between: land 0, x 1, y 2, f 3 -/
def c1__law_between : AM := lComp [3] (iRange1 (eBlt lenD (aOne (eOp2 idxS (eVar 0) (eC (.int 1)))))) (gName 3) (tOp2 eqD (eOp2 idxS (eOp2 idxS (eVar 0) (eC (.int 1))) (eVar 3)) (eTup (aCons (eVar 1) (aCons (eVar 2) aNil)))) (eVar 3)
def m__law_between : SM := (sRet (eFrz c1__law_between))
def f__law_between : FM := runF 4 m__law_between
/-- _law_turnable: land 0, found 1, n 2, f 3, ends 4, g 5 -/
def b1__law_turnable : SM := (sIf (tAnd (tOp2 ltD (eOp2 idxS (eOp2 idxS (eOp2 idxS (eVar 0) (eC (.int 2))) (eVar 3)) (eVar 5)) (eVar 2)) (tAnd (tOp2 ltD (eOp2 idxS (eOp2 idxS (eOp2 idxS (eVar 0) (eC (.int 2))) (eVar 5)) (eVar 3)) (eVar 2)) (tAnd (tOp2 geD (eOp2 idxS (eOp2 idxS (eOp2 idxS (eVar 0) (eC (.int 2))) (eVar 3)) (eVar 5)) (eC (.int 0))) (tOp2 geD (eOp2 idxS (eOp2 idxS (eOp2 idxS (eVar 0) (eC (.int 2))) (eVar 5)) (eVar 3)) (eC (.int 0)))))) (sAsg (eVar 5) (gSub putD (eVar 1) (eVar 3))) sNext)
def l1__law_turnable : SM := sFor (iOf (eCall callP 3 f__law_between (aCons (eVar 0) (aCons (eOp2 idxS (eVar 4) (eC (.int 1))) (aCons (eOp2 idxS (eVar 4) (eC (.int 0))) aNil))))) (gName 5) b1__law_turnable
def b2__law_turnable : SM := l1__law_turnable
def l2__law_turnable : SM := sFor (iEnum (eOp2 idxS (eVar 0) (eC (.int 1)))) (gTup [(gName 3), (gName 4)]) b2__law_turnable
def m__law_turnable : SM := (sSeq (sPar [1, 2] (aCons eDict (aCons (eOp2 idxS (eVar 0) (eC (.int 0))) aNil)))
    (sSeq l2__law_turnable
    (sSeq (sFrz 1) (sRet (eVar 1)))))
def f__law_turnable : FM := runF 6 m__law_turnable
/-- _law_squares: land 0, n 1, ends 2, table 3, found 4, ee 5, dd 6, uu 7, vv 8 -/
def b1__law_squares : SM := (sIf (tOp2 eqD (eOp2 idxS (eOp2 idxS (eVar 3) (eVar 7)) (eVar 6)) (eOp2 idxS (eOp2 idxS (eVar 3) (eVar 5)) (eVar 8))) (sDrop (eMth isL appD (eVar 4) (aOne (eTup (aCons (eVar 5) (aCons (eVar 6) (aCons (eVar 7) (aCons (eVar 8) aNil)))))))) sNext)
def l1__law_squares : SM := sFor (iOf (eCall callP 3 f__law_between (aCons (eVar 0) (aCons (eOp2 idxS (eOp2 idxS (eVar 2) (eVar 5)) (eC (.int 1))) (aCons (eOp2 idxS (eOp2 idxS (eVar 2) (eVar 6)) (eC (.int 1))) aNil))))) (gName 8) b1__law_squares
def b2__law_squares : SM := l1__law_squares
def l2__law_squares : SM := sFor (iOf (eCall callP 3 f__law_between (aCons (eVar 0) (aCons (eOp2 idxS (eOp2 idxS (eVar 2) (eVar 5)) (eC (.int 0))) (aCons (eOp2 idxS (eOp2 idxS (eVar 2) (eVar 6)) (eC (.int 0))) aNil))))) (gName 7) b2__law_squares
def b3__law_squares : SM := l2__law_squares
def l3__law_squares : SM := sFor (iRange1 (eBlt lenD (aOne (eVar 2)))) (gName 6) b3__law_squares
def b4__law_squares : SM := l3__law_squares
def l4__law_squares : SM := sFor (iRange1 (eBlt lenD (aOne (eVar 2)))) (gName 5) b4__law_squares
def m__law_squares : SM := (sSeq (sAsg (eVar 0) (gTup [(gName 1), (gName 2), (gName 3)]))
    (sSeq (sAsg (eNew (lOf aNil)) (gName 4))
    (sSeq l4__law_squares
    (sSeq (sFrz 4) (sRet (eVar 4))))))
def f__law_squares : FM := runF 9 m__law_squares
/-- _law_fills: land 0, ee 1, dd 2, n 3, ends 4, table 5, uu 6, vv 7, some 8, l 9 -/
def c1__law_fills : AM := lComp [9] (iOf (eCall callP 3 f__law_between (aCons (eVar 0) (aCons (eOp2 idxS (eOp2 idxS (eVar 4) (eVar 1)) (eC (.int 1))) (aCons (eOp2 idxS (eOp2 idxS (eVar 4) (eVar 2)) (eC (.int 0))) aNil))))) (gName 9) (tAnd (tOp2 eqD (eOp2 idxS (eOp2 idxS (eVar 5) (eVar 1)) (eVar 9)) (eVar 6)) (tOp2 eqD (eOp2 idxS (eOp2 idxS (eVar 5) (eVar 9)) (eVar 2)) (eVar 7))) (eVar 9)
def b1__law_fills : SM := (sIf (tOp2 eqD (eOp2 idxS (eOp2 idxS (eVar 5) (eVar 6)) (eVar 2)) (eOp2 idxS (eOp2 idxS (eVar 5) (eVar 1)) (eVar 7))) (sSeq (sAsg (eFrz c1__law_fills) (gName 8))
    (sIf (tOp2 neD (eBlt lenD (aOne (eVar 8))) (eC (.int 1))) (sRet (eC (.bl false))) sNext)) sNext)
def l1__law_fills : SM := sFor (iOf (eCall callP 3 f__law_between (aCons (eVar 0) (aCons (eOp2 idxS (eOp2 idxS (eVar 4) (eVar 1)) (eC (.int 1))) (aCons (eOp2 idxS (eOp2 idxS (eVar 4) (eVar 2)) (eC (.int 1))) aNil))))) (gName 7) b1__law_fills
def b2__law_fills : SM := l1__law_fills
def l2__law_fills : SM := sFor (iOf (eCall callP 3 f__law_between (aCons (eVar 0) (aCons (eOp2 idxS (eOp2 idxS (eVar 4) (eVar 1)) (eC (.int 0))) (aCons (eOp2 idxS (eOp2 idxS (eVar 4) (eVar 2)) (eC (.int 0))) aNil))))) (gName 6) b2__law_fills
def m__law_fills : SM := (sSeq (sAsg (eVar 0) (gTup [(gName 3), (gName 4), (gName 5)]))
    (sSeq l2__law_fills
    (sRet (eC (.bl true)))))
def f__law_fills : FM := runF 10 m__law_fills
/-- _law_fill_rows: land 0, size 1, dd 2, ee 3 -/
def c1__law_fill_rows : AM := lComp [2] (iRange1 (eVar 1)) (gName 2) tYes (eCall callP 3 f__law_fills (aCons (eVar 0) (aCons (eVar 3) (aCons (eVar 2) aNil))))
def c2__law_fill_rows : AM := lComp [3] (iRange1 (eVar 1)) (gName 3) tYes (eFrz c1__law_fill_rows)
def m__law_fill_rows : SM := (sSeq (sAsg (eBlt lenD (aOne (eOp2 idxS (eVar 0) (eC (.int 1))))) (gName 1))
    (sRet (eFrz c2__law_fill_rows)))
def f__law_fill_rows : FM := runF 4 m__law_fill_rows
/-- turned: world 0, things 1, ends 2, table 3, many 4, x 5, y 6, g 7, f 8 -/
def c1_turned : AM := lComp [5, 6] (iOf (eVar 2)) (gTup [(gName 5), (gName 6)]) tYes (eTup (aCons (eVar 6) (aCons (eVar 5) aNil)))
def c2_turned : AM := lComp [7] (iOf (eVar 4)) (gName 7) tYes (eOp2 idxS (eOp2 idxS (eVar 3) (eVar 7)) (eVar 8))
def c3_turned : AM := lComp [8] (iOf (eVar 4)) (gName 8) tYes (eBlt tupD (aOne (eFrz c2_turned)))
def m_turned : SM := (sSeq (sAsg (eVar 0) (gTup [(gName 1), (gName 2), (gName 3)]))
    (sSeq (sAsg (eBlt rng2 (aOne (eBlt lenD (aOne (eVar 2))))) (gName 4))
    (sRet (eTup (aCons (eVar 1) (aCons (eBlt tupD (aOne (eFrz c1_turned))) (aCons (eBlt tupD (aOne (eFrz c3_turned))) aNil)))))))
def f_turned : FM := runF 9 m_turned
/-- _law_draw: dd 0, bound 1, found 2, spot 3, cells 4, extra 5, cell 6, blend 7 -/
def m__law_draw : SM := (sSeq (sIf (tOp2 gtD (eOp2 dIdx (eVar 0) (eC (.str "left"))) (eC (.int 0))) (sSeq (sAsg (eOp2 modD (eBlt intD (aOne (eOp2 dIdx (eVar 0) (eC (.str "left"))))) (eVar 1)) (gName 2))
    (sSeq (sAsg (eOp2 divD (eOp2 dIdx (eVar 0) (eC (.str "left"))) (eVar 1)) (gSub putD (eVar 0) (eC (.str "left"))))
    (sRet (eVar 2)))) sNext)
    (sSeq (sAsg (eOp2 dIdx (eVar 0) (eC (.str "spot"))) (gName 3))
    (sSeq (sAsg (eOp2 addD (eVar 3) (eC (.int 1))) (gSub putD (eVar 0) (eC (.str "spot"))))
    (sSeq (sPar [4, 5] (aCons (eOp2 dIdx (eVar 0) (eC (.str "cells"))) (aCons (eOp2 addD (eOp2 dIdx (eVar 0) (eC (.str "seed"))) (eOp2 mulD (eOp2 mulD (eC (.int 40503)) (eVar 3)) (eVar 3))) aNil)))
    (sSeq (sAsg (eOp2 idxS (eVar 4) (eOp2 modD (eBlt intD (aOne (eVar 3))) (eBlt lenD (aOne (eVar 4))))) (gName 6))
    (sSeq (sAsg (eOp2 modD (eBlt intD (aOne (eOp2 addD (eOp2 mulD (eVar 6) (eOp2 addD (eOp2 mulD (eC (.int 2)) (eVar 3)) (eC (.int 3)))) (eVar 5)))) (eC (.int 2147483647))) (gName 7))
    (sSeq (sAsg (eOp2 modD (eBlt intD (aOne (eOp2 addD (eOp2 addD (eOp2 mulD (eVar 7) (eVar 7)) (eOp2 mulD (eC (.int 69621)) (eVar 3))) (eOp2 dIdx (eVar 0) (eC (.str "seed")))))) (eC (.int 2147483629))) (gName 7))
    (sRet (eOp2 modD (eOp2 divD (eOp2 modD (eBlt intD (aOne (eOp2 addD (eOp2 mulD (eVar 7) (eC (.int 48271))) (eVar 3)))) (eC (.int 2147483647))) (eC (.int 11))) (eVar 1))))))))))
def f__law_draw : FM := runF 8 m__law_draw
/-- _law_of: dd 0, some 1 -/
def m__law_of : SM := (sRet (eOp2 idxS (eVar 1) (eCall callS 2 f__law_draw (aCons (eVar 0) (aCons (eBlt lenD (aOne (eVar 1))) aNil)))))
def f__law_of : FM := runF 2 m__law_of
/-- _law_like: got 0, due 1 -/
def m__law_like : SM := (sRet (eB (tOp2 eqD (eBlt reprD (aOne (eVar 0))) (eBlt reprD (aOne (eVar 1))))))
def f__law_like : FM := runF 2 m__law_like
/-- between: world 0, x 1, y 2, f 3, pair 4 -/
def c1_between : AM := lComp [3, 4] (iEnum (eOp2 idxS (eVar 0) (eC (.int 1)))) (gTup [(gName 3), (gName 4)]) (tOp2 eqD (eVar 4) (eTup (aCons (eVar 1) (aCons (eVar 2) aNil)))) (eVar 3)
def m_between : SM := (sRet (eBlt tupD (aOne (eFrz c1_between))))
def f_between : FM := runF 5 m_between
/-- lifts: world 0, e 1, m 2, u 3, v 4, ends 5, table 6, found 7, l 8 -/
def c1_lifts : AM := lComp [8] (iOf (eVar 7)) (gName 8) (tAnd (tOp2 eqD (eOp2 idxS (eOp2 idxS (eVar 6) (eVar 1)) (eVar 8)) (eVar 3)) (tOp2 eqD (eOp2 idxS (eOp2 idxS (eVar 6) (eVar 8)) (eVar 2)) (eVar 4))) (eVar 8)
def m_lifts : SM := (sSeq (sAsg (eTup (aCons (eOp2 idxS (eVar 0) (eC (.int 1))) (aCons (eOp2 idxS (eVar 0) (eC (.int 2))) aNil))) (gTup [(gName 5), (gName 6)]))
    (sSeq (sAsg (eCall callP 3 f_between (aCons (eVar 0) (aCons (eOp2 idxS (eOp2 idxS (eVar 5) (eVar 1)) (eC (.int 1))) (aCons (eOp2 idxS (eOp2 idxS (eVar 5) (eVar 2)) (eC (.int 0))) aNil)))) (gName 7))
    (sRet (eBlt tupD (aOne (eFrz c1_lifts))))))
def f_lifts : FM := runF 9 m_lifts
/-- does_fill_against: world 0, e 1, m 2, ends 3, table 4, counts 5, l 6, spot 7, u 8, v 9 -/
def b1_does_fill_against : SM := (sSeq (sAsg (eTup (aCons (eOp2 idxS (eOp2 idxS (eVar 4) (eVar 1)) (eVar 6)) (aCons (eOp2 idxS (eOp2 idxS (eVar 4) (eVar 6)) (eVar 2)) aNil))) (gName 7))
    (sAsg (eOp2 addD (eMth isDct getD2 (eVar 5) (aCons (eVar 7) (aCons (eC (.int 0)) aNil))) (eC (.int 1))) (gSub putD (eVar 5) (eVar 7))))
def l1_does_fill_against : SM := sFor (iOf (eCall callP 3 f_between (aCons (eVar 0) (aCons (eOp2 idxS (eOp2 idxS (eVar 3) (eVar 1)) (eC (.int 1))) (aCons (eOp2 idxS (eOp2 idxS (eVar 3) (eVar 2)) (eC (.int 0))) aNil))))) (gName 6) b1_does_fill_against
def b2_does_fill_against : SM := (sIf (tAnd (tOp2 eqD (eOp2 idxS (eOp2 idxS (eVar 4) (eVar 8)) (eVar 2)) (eOp2 idxS (eOp2 idxS (eVar 4) (eVar 1)) (eVar 9))) (tOp2 neD (eMth isDct getD2 (eVar 5) (aCons (eTup (aCons (eVar 8) (aCons (eVar 9) aNil))) (aCons (eC (.int 0)) aNil))) (eC (.int 1)))) (sRet (eC (.bl false))) sNext)
def l2_does_fill_against : SM := sFor (iOf (eCall callP 3 f_between (aCons (eVar 0) (aCons (eOp2 idxS (eOp2 idxS (eVar 3) (eVar 1)) (eC (.int 1))) (aCons (eOp2 idxS (eOp2 idxS (eVar 3) (eVar 2)) (eC (.int 1))) aNil))))) (gName 9) b2_does_fill_against
def b3_does_fill_against : SM := l2_does_fill_against
def l3_does_fill_against : SM := sFor (iOf (eCall callP 3 f_between (aCons (eVar 0) (aCons (eOp2 idxS (eOp2 idxS (eVar 3) (eVar 1)) (eC (.int 0))) (aCons (eOp2 idxS (eOp2 idxS (eVar 3) (eVar 2)) (eC (.int 0))) aNil))))) (gName 8) b3_does_fill_against
def m_does_fill_against : SM := (sSeq (sPar [3, 4] (aCons (eOp2 idxS (eVar 0) (eC (.int 1))) (aCons (eOp2 idxS (eVar 0) (eC (.int 2))) aNil)))
    (sSeq (sAsg eDict (gName 5))
    (sSeq l1_does_fill_against
    (sSeq (sFrz 5) (sSeq l3_does_fill_against
    (sRet (eC (.bl true))))))))
def f_does_fill_against : FM := runF 10 m_does_fill_against
/-- _law_is_right: dd 0, land 1, n 2, ends 3, table 4, size 5, rows 6, back 7, ee 8, g 9, known 10, f 11, both 12, some 13, squares 14, step 15, far 16, uu 17, vv 18, l 19 -/
def c1__law_is_right : AM := lComp [9] (iRange1 (eVar 5)) (gName 9) tYes (eCall callP 3 f_does_fill_against (aCons (eVar 1) (aCons (eVar 8) (aCons (eVar 9) aNil))))
def c2__law_is_right : AM := lComp [9] (iRange1 (eVar 5)) (gName 9) (tOp2 neD (eCall callP 3 f_does_fill_against (aCons (eVar 7) (aCons (eVar 9) (aCons (eVar 8) aNil)))) (eOp2 idxS (eOp2 idxS (eVar 6) (eVar 8)) (eVar 9))) (eVar 9)
def b1__law_is_right : SM := (sSeq (sIf (tNot (tB (eCall callP 2 f__law_like (aCons (eFrz c1__law_is_right) (aCons (eOp2 idxS (eVar 6) (eVar 8)) aNil))))) (sRet (eC (.bl false))) sNext)
    (sIf (tOp2 neD (eFrz c2__law_is_right) (eFrz (lOf aNil))) (sRet (eC (.bl false))) sNext))
def l1__law_is_right : SM := sFor (iRange1 (eVar 5)) (gName 8) b1__law_is_right
def b2__law_is_right : SM := (sIf (tAnd (tOp2 dInB (eVar 11) (eVar 10)) (tNot (tAnd (tB (eOp2 idxS (eOp2 idxS (eVar 6) (eVar 11)) (eVar 9))) (tB (eOp2 idxS (eOp2 idxS (eVar 6) (eVar 9)) (eVar 11)))))) (sRet (eC (.bl false))) sNext)
def l2__law_is_right : SM := sFor (iRange1 (eVar 5)) (gName 9) b2__law_is_right
def c3__law_is_right : AM := lComp [8] (iRange1 (eVar 5)) (gName 8) (tAnd (tB (eOp2 idxS (eOp2 idxS (eVar 6) (eVar 8)) (eVar 11))) (tB (eOp2 idxS (eOp2 idxS (eVar 6) (eVar 8)) (eVar 9)))) (eVar 8)
def c4__law_is_right : AM := lComp [8] (iOf (eVar 13)) (gName 8) (tNot (tB (eOp2 idxS (eOp2 idxS (eVar 6) (eVar 8)) (eVar 12)))) (eVar 8)
def b3__law_is_right : SM := (sSeq (sAsg (eOp2 idxS (eOp2 idxS (eVar 4) (eVar 11)) (eVar 9)) (gName 12))
    (sIf (tOp2 geD (eVar 12) (eC (.int 0))) (sSeq (sAsg (eFrz c3__law_is_right) (gName 13))
    (sIf (tOp2 neD (eFrz c4__law_is_right) (eFrz (lOf aNil))) (sRet (eC (.bl false))) sNext)) sNext))
def l3__law_is_right : SM := sFor (iRange1 (eVar 5)) (gName 9) b3__law_is_right
def b4__law_is_right : SM := (sSeq (sIf (tOp2 neD (eOp2 idxS (eOp2 idxS (eVar 6) (eVar 11)) (eVar 11)) (eB (tOp2 dInB (eVar 11) (eVar 10)))) (sRet (eC (.bl false))) sNext)
    (sSeq l2__law_is_right
    l3__law_is_right))
def l4__law_is_right : SM := sFor (iRange1 (eVar 5)) (gName 11) b4__law_is_right
def c5__law_is_right : AM := lComp [19] (iOf (eCall callP 3 f__law_between (aCons (eVar 1) (aCons (eOp2 idxS (eOp2 idxS (eVar 3) (eVar 8)) (eC (.int 1))) (aCons (eOp2 idxS (eOp2 idxS (eVar 3) (eVar 16)) (eC (.int 0))) aNil))))) (gName 19) (tAnd (tOp2 eqD (eOp2 idxS (eOp2 idxS (eVar 4) (eVar 8)) (eVar 19)) (eVar 17)) (tOp2 eqD (eOp2 idxS (eOp2 idxS (eVar 4) (eVar 19)) (eVar 16)) (eVar 18))) (eVar 19)
def b5__law_is_right : SM := (sSeq (sAsg (eCall callS 2 f__law_of (aCons (eVar 0) (aCons (eVar 14) aNil))) (gTup [(gName 8), (gName 16), (gName 17), (gName 18)]))
    (sSeq (sAsg (eFrz c5__law_is_right) (gName 13))
    (sSeq (sIf (tNot (tB (eCall callP 2 f__law_like (aCons (eCall callP 5 f_lifts (aCons (eVar 1) (aCons (eVar 8) (aCons (eVar 16) (aCons (eVar 17) (aCons (eVar 18) aNil)))))) (aCons (eBlt tupD (aOne (eVar 13))) aNil))))) (sRet (eC (.bl false))) sNext)
    (sSeq (sIf (tNot (tB (eCall callP 2 f__law_like (aCons (eCallK callP 5 [4, 3, 2, 1, 0] f_lifts (aCons (eVar 18) (aCons (eVar 17) (aCons (eVar 16) (aCons (eVar 8) (aCons (eVar 1) aNil)))))) (aCons (eBlt tupD (aOne (eVar 13))) aNil))))) (sRet (eC (.bl false))) sNext)
    (sIf (tAnd (tOp2 notBl (eCallK callP 3 [2, 1, 0] f_does_fill_against (aCons (eVar 16) (aCons (eVar 8) (aCons (eVar 1) aNil)))) (eC (.bl true))) (tB (eOp2 idxS (eOp2 idxS (eVar 6) (eVar 8)) (eVar 16)))) (sRet (eC (.bl false))) sNext)))))
def l5__law_is_right : SM := sFor (iRange1 (eIf (tOp2 neD (eVar 14) (eFrz (lOf aNil))) (eC (.int 6)) (eC (.int 0)))) (gName 15) b5__law_is_right
def m__law_is_right : SM := (sSeq (sAsg (eVar 1) (gTup [(gName 2), (gName 3), (gName 4)]))
    (sSeq (sAsg (eTup (aCons (eBlt lenD (aOne (eVar 3))) (aCons (eCall callP 1 f__law_fill_rows (aCons (eVar 1) aNil)) (aCons (eCall callP 1 f_turned (aCons (eVar 1) aNil)) aNil)))) (gTup [(gName 5), (gName 6), (gName 7)]))
    (sSeq l1__law_is_right
    (sSeq (sAsg (eCall callP 1 f__law_turnable (aCons (eVar 1) aNil)) (gName 10))
    (sSeq l4__law_is_right
    (sSeq (sAsg (eCall callP 1 f__law_squares (aCons (eVar 1) aNil)) (gName 14))
    (sSeq l5__law_is_right
    (sRet (eC (.bl true))))))))))
def f__law_is_right : FM := runF 20 m__law_is_right
/-- _law_drawn_order: dd 0, things 1, n 2, near 3, y 4, x 5, z 6 -/
def c1__law_drawn_order : AM := lComp [5] (iRange1 (eVar 4)) (gName 5) (tOp2 eqD (eCall callS 2 f__law_draw (aCons (eVar 0) (aCons (eC (.int 2)) aNil))) (eC (.int 0))) (eTup (aCons (eVar 5) (aCons (eVar 4) aNil)))
def b1__law_drawn_order : SM := (sAsg (eFrz (lOp2 lAdd (eVar 3) (eFrz c1__law_drawn_order))) (gName 3))
def l1__law_drawn_order : SM := sFor (iRange1 (eVar 2)) (gName 4) b1__law_drawn_order
def c2__law_drawn_order : AM := lComp [4] (iRange1 (eVar 2)) (gName 4) (tAnd (tOp2 neD (eVar 5) (eVar 4)) (tAnd (tOp2 inD (eTup (aCons (eVar 5) (aCons (eVar 6) aNil))) (eVar 3)) (tAnd (tOp2 inD (eTup (aCons (eVar 6) (aCons (eVar 4) aNil))) (eVar 3)) (tOp2 ninD (eTup (aCons (eVar 5) (aCons (eVar 4) aNil))) (eVar 3))))) (eTup (aCons (eVar 5) (aCons (eVar 4) aNil)))
def b2__law_drawn_order : SM := (sAsg (eFrz (lOp2 lAdd (eVar 3) (eFrz c2__law_drawn_order))) (gName 3))
def l2__law_drawn_order : SM := sFor (iRange1 (eVar 2)) (gName 5) b2__law_drawn_order
def b3__law_drawn_order : SM := l2__law_drawn_order
def l3__law_drawn_order : SM := sFor (iRange1 (eVar 2)) (gName 6) b3__law_drawn_order
def m__law_drawn_order : SM := (sSeq (sAsg (eTup (aCons (eCall callS 2 f__law_draw (aCons (eVar 0) (aCons (eOp2 addD (eVar 1) (eC (.int 1))) aNil))) (aCons (eFrz (lOf aNil)) aNil))) (gTup [(gName 2), (gName 3)]))
    (sSeq l1__law_drawn_order
    (sSeq (sIf (tAnd (tOp2 gtD (eVar 2) (eC (.int 1))) (tOp2 eqD (eCall callS 2 f__law_draw (aCons (eVar 0) (aCons (eC (.int 5)) aNil))) (eC (.int 0)))) (sAsg (eFrz (lOp2 lAdd (eVar 3) (eFrz (lOf (aCons (eTup (aCons (eC (.int 1)) (aCons (eC (.int 0)) aNil))) (aCons (eTup (aCons (eC (.int 0)) (aCons (eC (.int 1)) aNil))) aNil)))))) (gName 3)) sNext)
    (sSeq l3__law_drawn_order
    (sRet (eCall callP 2 f__law_order (aCons (eVar 2) (aCons (eFrz (lOp1 sortSet (eVar 3))) aNil))))))))
def f__law_drawn_order : FM := runF 7 m__law_drawn_order
/-- _law_turned: land 0, n 1, ends 2, table 3, size 4, x 5, y 6, g 7, f 8 -/
def c1__law_turned : AM := lComp [5, 6] (iOf (eVar 2)) (gTup [(gName 5), (gName 6)]) tYes (eTup (aCons (eVar 6) (aCons (eVar 5) aNil)))
def c2__law_turned : AM := lComp [7] (iOf (eVar 4)) (gName 7) tYes (eOp2 idxS (eOp2 idxS (eVar 3) (eVar 7)) (eVar 8))
def c3__law_turned : AM := lComp [8] (iOf (eVar 4)) (gName 8) tYes (eBlt tupD (aOne (eFrz c2__law_turned)))
def m__law_turned : SM := (sSeq (sAsg (eVar 0) (gTup [(gName 1), (gName 2), (gName 3)]))
    (sSeq (sAsg (eFrz (lBlt lstR (aOne (eBlt rng2 (aOne (eBlt lenD (aOne (eVar 2)))))))) (gName 4))
    (sRet (eTup (aCons (eVar 1) (aCons (eBlt tupD (aOne (eFrz c1__law_turned))) (aCons (eBlt tupD (aOne (eFrz c3__law_turned))) aNil)))))))
def f__law_turned : FM := runF 9 m__law_turned
/-- _law_closed_moves: sizes 0, moves 1, most 2, found 3, x 4, k 5, move 6, step 7, other 8, one 9, two 10, both 11, entry 12 -/
def c1__law_closed_moves : AM := lComp [4] (iRange1 (eBlt lenD (aOne (eVar 0)))) (gName 4) tYes (eTup (aCons (eVar 4) (aCons (eVar 4) (aCons (eBlt tupR (aOne (eBlt rng2 (aOne (eOp2 idxS (eVar 0) (eVar 4)))))) aNil))))
def c2__law_closed_moves : AM := lComp [5, 6] (iEnum (eVar 1)) (gTup [(gName 5), (gName 6)]) (tAnd (tOp2 ninD (eVar 6) (eVar 3)) (tOp2 ninD (eVar 6) (eFrz (sl3 cutL (eVar 1) oNone (oSome (eVar 5)))))) (eVar 6)
def c3__law_closed_moves : AM := lComp [12] (iOf (eOp2 idxS (eVar 9) (eC (.int 2)))) (gName 12) tYes (eOp2 idxS (eOp2 idxS (eVar 10) (eC (.int 2))) (eVar 12))
def b1__law_closed_moves : SM := (sIf (tOp2 eqD (eOp2 idxS (eVar 9) (eC (.int 1))) (eOp2 idxS (eVar 10) (eC (.int 0)))) (sSeq (sAsg (eTup (aCons (eOp2 idxS (eVar 9) (eC (.int 0))) (aCons (eOp2 idxS (eVar 10) (eC (.int 1))) (aCons (eBlt tupD (aOne (eFrz c3__law_closed_moves))) aNil)))) (gName 11))
    (sIf (tOp2 ninD (eVar 11) (eVar 3)) (sDrop (eMth isL appD (eVar 3) (aOne (eVar 11)))) sNext)) sNext)
def l1__law_closed_moves : SM := sFor (iOf (eFrz (lOf (aCons (eTup (aCons (eOp2 idxS (eVar 3) (eVar 7)) (aCons (eVar 8) aNil))) (aCons (eTup (aCons (eVar 8) (aCons (eOp2 idxS (eVar 3) (eVar 7)) aNil))) aNil))))) (gTup [(gName 9), (gName 10)]) b1__law_closed_moves
def b2__law_closed_moves : SM := l1__law_closed_moves
def l2__law_closed_moves : SM := sFor (iOf (eFrz (sl3 cutL (eVar 3) oNone oNone))) (gName 8) b2__law_closed_moves
def b3__law_closed_moves : SM := (sSeq (sIf (tOp2 gtD (eBlt lenD (aOne (eVar 3))) (eVar 2)) (sRet (eC .non)) sNext)
    (sIf (tOp2 ltD (eVar 7) (eBlt lenD (aOne (eVar 3)))) l2__law_closed_moves sNext))
def l3__law_closed_moves : SM := sFor (iRange1 (eOp2 addD (eVar 2) (eC (.int 1)))) (gName 7) b3__law_closed_moves
def m__law_closed_moves : SM := (sSeq (sAsg (eNew c1__law_closed_moves) (gName 3))
    (sSeq (sAsg (eNew (lOp2 lAdd (eVar 3) (eFrz c2__law_closed_moves))) (gName 3))
    (sSeq l3__law_closed_moves
    (sSeq (sFrz 3) (sRet (eIf (tOp2 leD (eBlt lenD (aOne (eVar 3))) (eVar 2)) (eVar 3) (eC .non)))))))
def f__law_closed_moves : FM := runF 13 m__law_closed_moves
/-- _law_drawn_moves: dd 0, things 1, most 2, n 3, sizes 4, x 5, moves 6, step 7, y 8, entry 9, found 10 -/
def c1__law_drawn_moves : AM := lComp [5] (iRange1 (eVar 3)) (gName 5) tYes (eOp2 addD (eC (.int 1)) (eCall callS 2 f__law_draw (aCons (eVar 0) (aCons (eC (.int 3)) aNil))))
def c2__law_drawn_moves : AM := lComp [9] (iRange1 (eOp2 idxS (eVar 4) (eVar 5))) (gName 9) tYes (eCall callS 2 f__law_draw (aCons (eVar 0) (aCons (eOp2 idxS (eVar 4) (eVar 8)) aNil)))
def b1__law_drawn_moves : SM := (sSeq (sAsg (eTup (aCons (eCall callS 2 f__law_draw (aCons (eVar 0) (aCons (eVar 3) aNil))) (aCons (eCall callS 2 f__law_draw (aCons (eVar 0) (aCons (eVar 3) aNil))) aNil))) (gTup [(gName 5), (gName 8)]))
    (sDrop (eMth isL appD (eVar 6) (aOne (eTup (aCons (eVar 5) (aCons (eVar 8) (aCons (eBlt tupD (aOne (eFrz c2__law_drawn_moves))) aNil))))))))
def l1__law_drawn_moves : SM := sFor (iRange1 (eOp2 addD (eC (.int 1)) (eCall callS 2 f__law_draw (aCons (eVar 0) (aCons (eOp2 addD (eVar 3) (eC (.int 1))) aNil))))) (gName 7) b1__law_drawn_moves
def b2__law_drawn_moves : SM := (sSeq (sAsg (eCall callP 3 f__law_closed_moves (aCons (eVar 4) (aCons (eVar 6) (aCons (eVar 2) aNil)))) (gName 10))
    (sSeq (sIf (tOp2 notN (eVar 10) (eC .non)) (sRet (eTup (aCons (eVar 4) (aCons (eVar 10) aNil)))) sNext)
    (sAsg (eFrz (sl3 cutL (eVar 6) oNone (oSome (eOp1 negD (eC (.int 1)))))) (gName 6))))
def l2__law_drawn_moves : SM := sFor (iRange1 (eBlt lenD (aOne (eVar 6)))) (gName 7) b2__law_drawn_moves
def m__law_drawn_moves : SM := (sSeq (sAsg (eOp2 addD (eC (.int 1)) (eCall callS 2 f__law_draw (aCons (eVar 0) (aCons (eVar 1) aNil)))) (gName 3))
    (sSeq (sAsg (eFrz c1__law_drawn_moves) (gName 4))
    (sSeq (sAsg (eNew (lOf aNil)) (gName 6))
    (sSeq l1__law_drawn_moves
    (sSeq (sFrz 6) (sSeq l2__law_drawn_moves
    (sRet (eTup (aCons (eVar 4) (aCons (eCall callP 3 f__law_closed_moves (aCons (eVar 4) (aCons (eFrz (lOf aNil)) (aCons (eC (.int 40)) aNil)))) aNil))))))))))
def f__law_drawn_moves : FM := runF 11 m__law_drawn_moves
/-- _law_named: things 0, arrows 1, stills 2, follow 3, spots 4, numbers 5, ends 6, k 7, thing 8, rest 9, key 10, x 11, y 12, name 13, rows 14, g 15, f 16, one 17, other 18, row 19 -/
def b1__law_named : SM := (sSeq (sAsg (eVar 7) (gSub putD (eVar 4) (eVar 8)))
    (sSeq (sAsg (eVar 7) (gSub putD (eVar 5) (eOp2 dIdx (eVar 2) (eVar 8))))
    (sDrop (eMth isL appD (eVar 6) (aOne (eTup (aCons (eVar 7) (aCons (eVar 7) aNil))))))))
def l1__law_named : SM := sFor (iEnum (eFrz (lBlt sortF (aOne (eVar 0))))) (gTup [(gName 7), (gName 8)]) b1__law_named
def c1__law_named : AM := lComp [10] (iDict (eVar 1)) (gName 10) (tOp2 dNinB (eVar 10) (eVar 5)) (eTup (aCons (eOp2 dIdx (eVar 4) (eOp2 idxS (eOp2 dIdx (eVar 1) (eVar 10)) (eC (.int 0)))) (aCons (eOp2 dIdx (eVar 4) (eOp2 idxS (eOp2 dIdx (eVar 1) (eVar 10)) (eC (.int 1)))) (aCons (eOp2 idxS (eOp2 dIdx (eVar 1) (eVar 10)) (eC (.int 2))) (aCons (eVar 10) aNil)))))
def b2__law_named : SM := (sSeq (sAsg (eBlt lenD (aOne (eVar 6))) (gSub putD (eVar 5) (eVar 10)))
    (sDrop (eMth isL appD (eVar 6) (aOne (eTup (aCons (eVar 11) (aCons (eVar 12) aNil)))))))
def l2__law_named : SM := sFor (iOf (eFrz (lBlt sortF (aOne (eVar 9))))) (gTup [(gName 11), (gName 12), (gName 13), (gName 10)]) b2__law_named
def c2__law_named : AM := lComp [15] (iOf (eVar 6)) (gName 15) tYes (eOp1 negD (eC (.int 1)))
def c3__law_named : AM := lComp [16] (iOf (eVar 6)) (gName 16) tYes (eNew c2__law_named)
def b3__law_named : SM := (sSeq (sAsg (eOp2 idxS (eVar 14) (eOp2 dIdx (eVar 5) (eVar 17))) (gName 19))
    (sAsg (eOp2 dIdx (eVar 5) (eOp2 dIdx (eVar 3) (eTup (aCons (eVar 17) (aCons (eVar 18) aNil))))) (gSub setL (eVar 19) (eOp2 dIdx (eVar 5) (eVar 18)))))
def l3__law_named : SM := sFor (iDict (eVar 3)) (gTup [(gName 17), (gName 18)]) b3__law_named
def c4__law_named : AM := lComp [19] (iOf (eVar 14)) (gName 19) tYes (eBlt tupD (aOne (eVar 19)))
def m__law_named : SM := (sSeq (sAsg (eTup (aCons eDict (aCons eDict (aCons (eNew (lOf aNil)) aNil)))) (gTup [(gName 4), (gName 5), (gName 6)]))
    (sSeq l1__law_named
    (sSeq (sFrz 4) (sSeq (sAsg (eFrz c1__law_named) (gName 9))
    (sSeq l2__law_named
    (sSeq (sFrz 5) (sSeq (sFrz 6) (sSeq (sAsg (eFrz c3__law_named) (gName 14))
    (sSeq l3__law_named
    (sRet (eTup (aCons (eTup (aCons (eBlt lenA (aOne (eVar 4))) (aCons (eBlt tupD (aOne (eVar 6))) (aCons (eBlt tupD (aOne (eFrz c4__law_named))) aNil)))) (aCons (eVar 4) (aCons (eVar 5) aNil))))))))))))))
def f__law_named : FM := runF 20 m__law_named
/-- _law_world_of_moves: sizes 0, found 1, arrows 2, stills 3, follow 4, move 5, x 6, size 7, one 8, two 9, entry 10 -/
def b1__law_world_of_moves : SM := (sAsg (eTup (aCons (eOp2 idxS (eVar 5) (eC (.int 0))) (aCons (eOp2 idxS (eVar 5) (eC (.int 1))) (aCons (eOp2 idxS (eVar 5) (eC (.int 2))) aNil)))) (gSub putD (eVar 2) (eVar 5)))
def l1__law_world_of_moves : SM := sFor (iOf (eVar 1)) (gName 5) b1__law_world_of_moves
def b2__law_world_of_moves : SM := (sAsg (eTup (aCons (eVar 6) (aCons (eVar 6) (aCons (eBlt tupR (aOne (eBlt rng2 (aOne (eVar 7))))) aNil)))) (gSub putD (eVar 3) (eVar 6)))
def l2__law_world_of_moves : SM := sFor (iEnum (eVar 0)) (gTup [(gName 6), (gName 7)]) b2__law_world_of_moves
def c1__law_world_of_moves : AM := lComp [10] (iOf (eOp2 idxS (eVar 8) (eC (.int 2)))) (gName 10) tYes (eOp2 idxS (eOp2 idxS (eVar 9) (eC (.int 2))) (eVar 10))
def b3__law_world_of_moves : SM := (sIf (tOp2 eqD (eOp2 idxS (eVar 8) (eC (.int 1))) (eOp2 idxS (eVar 9) (eC (.int 0)))) (sAsg (eTup (aCons (eOp2 idxS (eVar 8) (eC (.int 0))) (aCons (eOp2 idxS (eVar 9) (eC (.int 1))) (aCons (eBlt tupD (aOne (eFrz c1__law_world_of_moves))) aNil)))) (gSub putD (eVar 4) (eTup (aCons (eVar 8) (aCons (eVar 9) aNil))))) sNext)
def l3__law_world_of_moves : SM := sFor (iOf (eVar 1)) (gName 9) b3__law_world_of_moves
def b4__law_world_of_moves : SM := l3__law_world_of_moves
def l4__law_world_of_moves : SM := sFor (iOf (eVar 1)) (gName 8) b4__law_world_of_moves
def m__law_world_of_moves : SM := (sSeq (sPar [2, 3, 4] (aCons eDict (aCons eDict (aCons eDict aNil))))
    (sSeq l1__law_world_of_moves
    (sSeq (sFrz 2) (sSeq l2__law_world_of_moves
    (sSeq (sFrz 3) (sSeq l4__law_world_of_moves
    (sSeq (sFrz 4) (sRet (eCall callP 4 f__law_named (aCons (eFrz (lBlt lstR (aOne (eBlt rng2 (aOne (eBlt lenD (aOne (eVar 0)))))))) (aCons (eVar 2) (aCons (eVar 3) (aCons (eVar 4) aNil)))))))))))))
def f__law_world_of_moves : FM := runF 11 m__law_world_of_moves
/-- _law_sum: one 0, other 1, things 2, arrows 3, stills 4, follow 5, side 6, land 7, x 8, f 9, ends 10, g 11 -/
def b1__law_sum : SM := (sSeq (sDrop (eMth isL appD (eVar 2) (aOne (eTup (aCons (eVar 6) (aCons (eVar 8) aNil))))))
    (sAsg (eTup (aCons (eVar 6) (aCons (eVar 8) aNil))) (gSub putD (eVar 4) (eTup (aCons (eVar 6) (aCons (eVar 8) aNil))))))
def l1__law_sum : SM := sFor (iRange1 (eOp2 idxS (eVar 7) (eC (.int 0)))) (gName 8) b1__law_sum
def b2__law_sum : SM := (sIf (tOp2 geD (eOp2 idxS (eOp2 idxS (eOp2 idxS (eVar 7) (eC (.int 2))) (eVar 9)) (eVar 11)) (eC (.int 0))) (sAsg (eTup (aCons (eVar 6) (aCons (eOp2 idxS (eOp2 idxS (eOp2 idxS (eVar 7) (eC (.int 2))) (eVar 9)) (eVar 11)) aNil))) (gSub putD (eVar 5) (eTup (aCons (eTup (aCons (eVar 6) (aCons (eVar 9) aNil))) (aCons (eTup (aCons (eVar 6) (aCons (eVar 11) aNil))) aNil))))) sNext)
def l2__law_sum : SM := sFor (iRange1 (eBlt lenD (aOne (eOp2 idxS (eVar 7) (eC (.int 1)))))) (gName 11) b2__law_sum
def b3__law_sum : SM := (sSeq (sAsg (eTup (aCons (eTup (aCons (eVar 6) (aCons (eOp2 idxS (eVar 10) (eC (.int 0))) aNil))) (aCons (eTup (aCons (eVar 6) (aCons (eOp2 idxS (eVar 10) (eC (.int 1))) aNil))) (aCons (eTup (aCons (eVar 6) (aCons (eVar 9) aNil))) aNil)))) (gSub putD (eVar 3) (eTup (aCons (eVar 6) (aCons (eVar 9) aNil)))))
    l2__law_sum)
def l3__law_sum : SM := sFor (iEnum (eOp2 idxS (eVar 7) (eC (.int 1)))) (gTup [(gName 9), (gName 10)]) b3__law_sum
def b4__law_sum : SM := (sSeq l1__law_sum
    l3__law_sum)
def l4__law_sum : SM := sFor (iOf (eFrz (lOf (aCons (eTup (aCons (eC (.int 0)) (aCons (eVar 0) aNil))) (aCons (eTup (aCons (eC (.int 1)) (aCons (eVar 1) aNil))) aNil))))) (gTup [(gName 6), (gName 7)]) b4__law_sum
def m__law_sum : SM := (sSeq (sAsg (eTup (aCons (eNew (lOf aNil)) (aCons eDict (aCons eDict (aCons eDict aNil))))) (gTup [(gName 2), (gName 3), (gName 4), (gName 5)]))
    (sSeq l4__law_sum
    (sSeq (sFrz 2) (sSeq (sFrz 3) (sSeq (sFrz 4) (sSeq (sFrz 5) (sRet (eOp2 idxS (eCall callP 4 f__law_named (aCons (eVar 2) (aCons (eVar 3) (aCons (eVar 4) (aCons (eVar 5) aNil))))) (eC (.int 0))))))))))
def f__law_sum : FM := runF 12 m__law_sum
/-- _law_drawn_world: dd 0, things 1, most 2, word 3, found 4, sizes 5, moves 6 -/
def m__law_drawn_world : SM := (sSeq (sAsg (eCall callS 2 f__law_draw (aCons (eVar 0) (aCons (eC (.int 8)) aNil))) (gName 3))
    (sSeq (sIf (tOp2 ltD (eVar 3) (eC (.int 2))) (sAsg (eCall callS 2 f__law_drawn_order (aCons (eVar 0) (aCons (eVar 1) aNil))) (gName 4)) (sIf (tOp2 ltD (eVar 3) (eC (.int 6))) (sSeq (sAsg (eCall callS 3 f__law_drawn_moves (aCons (eVar 0) (aCons (eVar 1) (aCons (eVar 2) aNil)))) (gTup [(gName 5), (gName 6)]))
    (sAsg (eOp2 idxS (eCall callP 2 f__law_world_of_moves (aCons (eVar 5) (aCons (eVar 6) aNil))) (eC (.int 0))) (gName 4))) (sIf (tOp2 eqD (eVar 3) (eC (.int 6))) (sAsg (eCall callP 1 f__law_ring (aCons (eOp2 addD (eC (.int 1)) (eCall callS 2 f__law_draw (aCons (eVar 0) (aCons (eC (.int 4)) aNil)))) aNil)) (gName 4)) (sAsg (eCall callP 2 f__law_sum (aCons (eCall callP 1 f__law_ring (aCons (eOp2 addD (eC (.int 1)) (eCall callS 2 f__law_draw (aCons (eVar 0) (aCons (eC (.int 3)) aNil)))) aNil)) (aCons (eCall callP 1 f__law_chain (aCons (eCall callS 2 f__law_draw (aCons (eVar 0) (aCons (eC (.int 3)) aNil))) aNil)) aNil))) (gName 4)))))
    (sSeq (sIf (tOr (tOp2 gtD (eOp2 idxS (eVar 4) (eC (.int 0))) (eVar 1)) (tOp2 gtD (eBlt lenD (aOne (eOp2 idxS (eVar 4) (eC (.int 1))))) (eVar 2))) (sAsg (eCall callP 1 f__law_chain (aCons (eBlt min2 (aCons (eC (.int 2)) (aCons (eVar 1) aNil))) aNil)) (gName 4)) sNext)
    (sRet (eIf (tOp2 eqD (eCall callS 2 f__law_draw (aCons (eVar 0) (aCons (eC (.int 3)) aNil))) (eC (.int 0))) (eCall callP 1 f__law_turned (aCons (eVar 4) aNil)) (eVar 4))))))
def f__law_drawn_world : FM := runF 7 m__law_drawn_world
/-- law: script 0, land 1, turn 2, dd 3 -/
def b1_law : SM := (sIf (tNot (tB (eCall callS 2 f__law_is_right (aCons (eCall callF 2 f__law_begun (aCons (eVar 0) (aCons (eC (.int 7)) aNil))) (aCons (eVar 1) aNil))))) (sRet (eC (.bl false))) sNext)
def l1_law : SM := sFor (iOf (eFrz (lOf (aCons (eCall callP 1 f__law_chain (aCons (eC (.int 3)) aNil)) (aCons (eCall callP 1 f__law_ring (aCons (eC (.int 3)) aNil)) (aCons (eCall callP 1 f__law_loops (aCons (eFrz (lOf (aCons (eFrz (lOf (aCons (eC (.int 0)) (aCons (eC (.int 1)) aNil)))) (aCons (eFrz (lOf (aCons (eC (.int 1)) (aCons (eC (.int 1)) aNil)))) aNil)))) aNil)) (aCons (eTup (aCons (eC (.int 0)) (aCons (eTup aNil) (aCons (eTup aNil) aNil)))) aNil))))))) (gName 1) b1_law
def b2_law : SM := (sSeq (sAsg (eCall callF 2 f__law_begun (aCons (eVar 0) (aCons (eVar 2) aNil))) (gName 3))
    (sIf (tNot (tB (eCall callS 2 f__law_is_right (aCons (eVar 3) (aCons (eCall callS 3 f__law_drawn_world (aCons (eVar 3) (aCons (eC (.int 4)) (aCons (eC (.int 12)) aNil)))) aNil))))) (sRet (eC (.bl false))) sNext))
def l2_law : SM := sFor (iRange1 (eBlt max2 (aCons (eC (.int 2)) (aCons (eBlt min2 (aCons (eBlt lenD (aOne (eVar 0))) (aCons (eC (.int 4)) aNil))) aNil)))) (gName 2) b2_law
def m_law : SM := (sSeq l1_law
    (sSeq l2_law
    (sRet (eC (.bl true)))))
def f_law : FM := runF 4 m_law
/-! ### derivations -/
def top (i : Nat) : Stmt := PySem.Challenge.pw_arrowworlds_k87_whole_squares_filled.main.body.getD i (.Pass ⟨0, 0, 0, 0⟩)
structure Top (K : PySem.W.Frag) (mg : Str → Option Value) (h : Heap) : Prop where
  kin : K.In h
  ns : h.Ns mainGlobals mg
  z_enumerate : mg "enumerate" = none
  z_int : mg "int" = none
  z_len : mg "len" = none
  z_list : mg "list" = none
  z_max : mg "max" = none
  z_min : mg "min" = none
  z_range : mg "range" = none
  z_repr : mg "repr" = none
  z_set : mg "set" = none
  z_sorted : mg "sorted" = none
  z_tuple : mg "tuple" = none
section
variable {P : Program} {w : World} {K : PySem.W.Frag} {mg : Str → Option Value} {base h : Heap}
abbrev s__law_order : Stmt := top 13
theorem sc__law_order : FnScope ["n", "pairs", "spots", "x", "rows", "y", "z", "w"] ["n", "pairs"] (defScope s__law_order) := ⟨rfl, rfl, rfl, by decide +kernel, rfl, by decide +kernel, by decide +kernel⟩
theorem bd__law_order (T : Top K mg h) (X : Cx) (A : Amb X (defScope s__law_order) (defScope s__law_order).names ["n", "pairs", "spots", "x", "rows", "y", "z", "w"] 0) (h1 : X.prog = P) (h2 : X.w = w) (h3 : X.K = K) (h4 : X.mg = mg) (h5 : X.base = base) : SSs X W0 (defBody s__law_order) m__law_order := by
  subst h1 h2 h3 h4 h5
  exact (ss_cons (ss_set A (i := 2) (by decide +kernel) (se_frz (sl_add (se_frz (sl_lc A [("x", 3)] (si_range1 A (by decide +kernel) T.z_range (se_var A (i := 0) (by decide +kernel))) (by decide +kernel) (by decide +kernel) rfl (fun s H C cl fp A1 => (sg_name A1 (i := 3) (by decide +kernel))) (fun s H C cl fp A1 => sts_nil) (fun s H C cl fp A1 => (se_tup (sa_cons (se_var A1 (i := 3) (by decide +kernel)) (sa_cons (se_var A1 (i := 3) (by decide +kernel)) sa_nil)))))) (se_frz (sl_sorted A T.z_sorted (by decide +kernel) (se_var A (i := 1) (by decide +kernel)))))))
    (ss_cons (ss_set A (i := 4) (by decide +kernel) (se_new (sl_list sa_nil)))
    (ss_cons (ss_for A (si_of (se_var A (i := 2) (by decide +kernel))) (sg_tup A (sgs_cons (sg_name A (i := 3) (by decide +kernel)) (sgs_cons (sg_name A (i := 5) (by decide +kernel)) sgs_nil))) (ss_one (ss_drop (se_append (se_var A (i := 4) (by decide +kernel)) (se_tuple A T.z_tuple (by decide +kernel) (se_frz (sl_lc A [("z", 6), ("w", 7)] (si_of (se_var A (i := 2) (by decide +kernel))) (by decide +kernel) (by decide +kernel) rfl (fun s H C cl fp A1 => (sg_tup A1 (sgs_cons (sg_name A1 (i := 6) (by decide +kernel)) (sgs_cons (sg_name A1 (i := 7) (by decide +kernel)) sgs_nil)))) (fun s H C cl fp A1 => sts_nil) (fun s H C cl fp A1 => (se_if (st_eq A1 (se_var A1 (i := 5) (by decide +kernel)) (se_var A1 (i := 6) (by decide +kernel))) (se_index A1 (se_var A1 (i := 2) (by decide +kernel)) (se_tup (sa_cons (se_var A1 (i := 3) (by decide +kernel)) (sa_cons (se_var A1 (i := 7) (by decide +kernel)) sa_nil)))) (se_neg se_int))))))))))
    (ss_frz (i := 4) (ss_one (ss_ret (se_tup (sa_cons (se_var A (i := 0) (by decide +kernel)) (sa_cons (se_tuple A T.z_tuple (by decide +kernel) (se_var A (i := 2) (by decide +kernel))) (sa_cons (se_tuple A T.z_tuple (by decide +kernel) (se_var A (i := 4) (by decide +kernel))) sa_nil))))))))))
theorem ok__law_order (T : Top K mg h) (Df : DefAt K "_law_order" s__law_order) : FnR P w K mg base "_law_order" 1 2 f__law_order :=
  fn_at (ps := ["n", "pairs"]) T.kin T.ns Df sc__law_order (fun _ _ _ _ _ _ us hl => match us, hl with | [_, _], _ => rfl) fun X A h1 h2 h3 h4 h5 => bd__law_order T X A h1 h2 h3 h4 h5
abbrev s__law_chain : Stmt := top 14
theorem sc__law_chain : FnScope ["n", "pairs", "y", "x"] ["n"] (defScope s__law_chain) := ⟨rfl, rfl, rfl, by decide +kernel, rfl, by decide +kernel, by decide +kernel⟩
theorem bd__law_chain (T : Top K mg h) (F__law_order : FnR P w K mg base "_law_order" 1 2 f__law_order) (X : Cx) (A : Amb X (defScope s__law_chain) (defScope s__law_chain).names ["n", "pairs", "y", "x"] 1) (h1 : X.prog = P) (h2 : X.w = w) (h3 : X.K = K) (h4 : X.mg = mg) (h5 : X.base = base) : SSs X W0 (defBody s__law_chain) m__law_chain := by
  subst h1 h2 h3 h4 h5
  exact (ss_cons (ss_set A (i := 1) (by decide +kernel) (se_frz (sl_list sa_nil)))
    (ss_cons (ss_for A (si_range1 A (by decide +kernel) T.z_range (se_var A (i := 0) (by decide +kernel))) (sg_name A (i := 2) (by decide +kernel)) (ss_one (ss_set A (i := 1) (by decide +kernel) (se_frz (sl_add (se_var A (i := 1) (by decide +kernel)) (se_frz (sl_lc A [("x", 3)] (si_range1 A (by decide +kernel) T.z_range (se_var A (i := 2) (by decide +kernel))) (by decide +kernel) (by decide +kernel) rfl (fun s H C cl fp A1 => (sg_name A1 (i := 3) (by decide +kernel))) (fun s H C cl fp A1 => sts_nil) (fun s H C cl fp A1 => (se_tup (sa_cons (se_var A1 (i := 3) (by decide +kernel)) (sa_cons (se_var A1 (i := 2) (by decide +kernel)) sa_nil)))))))))))
    (ss_one (ss_ret (se_call cf_P A F__law_order (by decide) (by decide +kernel) (sa_cons (se_var A (i := 0) (by decide +kernel)) (sa_cons (se_var A (i := 1) (by decide +kernel)) sa_nil)))))))
theorem ok__law_chain (T : Top K mg h) (F__law_order : FnR P w K mg base "_law_order" 1 2 f__law_order) (Df : DefAt K "_law_chain" s__law_chain) : FnR P w K mg base "_law_chain" 2 1 f__law_chain :=
  fn_at (ps := ["n"]) T.kin T.ns Df sc__law_chain (fun _ _ _ _ _ _ us hl => match us, hl with | [_], _ => rfl) fun X A h1 h2 h3 h4 h5 => bd__law_chain T F__law_order X A h1 h2 h3 h4 h5
abbrev s__law_loops : Stmt := top 15
theorem sc__law_loops : FnScope ["rows", "row"] ["rows"] (defScope s__law_loops) := ⟨rfl, rfl, rfl, by decide +kernel, rfl, by decide +kernel, by decide +kernel⟩
theorem bd__law_loops (T : Top K mg h) (X : Cx) (A : Amb X (defScope s__law_loops) (defScope s__law_loops).names ["rows", "row"] 0) (h1 : X.prog = P) (h2 : X.w = w) (h3 : X.K = K) (h4 : X.mg = mg) (h5 : X.base = base) : SSs X W0 (defBody s__law_loops) m__law_loops := by
  subst h1 h2 h3 h4 h5
  exact (ss_one (ss_ret (se_tup (sa_cons se_int (sa_cons (se_tuple A T.z_tuple (by decide +kernel) (se_frz (sl_lc A [("row", 1)] (si_of (se_var A (i := 0) (by decide +kernel))) (by decide +kernel) (by decide +kernel) rfl (fun s H C cl fp A1 => (sg_name A1 (i := 1) (by decide +kernel))) (fun s H C cl fp A1 => sts_nil) (fun s H C cl fp A1 => (se_tup (sa_cons se_int (sa_cons se_int sa_nil))))))) (sa_cons (se_tuple A T.z_tuple (by decide +kernel) (se_frz (sl_lc A [("row", 1)] (si_of (se_var A (i := 0) (by decide +kernel))) (by decide +kernel) (by decide +kernel) rfl (fun s H C cl fp A1 => (sg_name A1 (i := 1) (by decide +kernel))) (fun s H C cl fp A1 => sts_nil) (fun s H C cl fp A1 => (se_tuple A1 T.z_tuple (by decide +kernel) (se_var A1 (i := 1) (by decide +kernel))))))) sa_nil))))))
theorem ok__law_loops (T : Top K mg h) (Df : DefAt K "_law_loops" s__law_loops) : FnR P w K mg base "_law_loops" 1 1 f__law_loops :=
  fn_at (ps := ["rows"]) T.kin T.ns Df sc__law_loops (fun _ _ _ _ _ _ us hl => match us, hl with | [_], _ => rfl) fun X A h1 h2 h3 h4 h5 => bd__law_loops T X A h1 h2 h3 h4 h5
abbrev s__law_ring : Stmt := top 16
theorem sc__law_ring : FnScope ["k", "b", "a"] ["k"] (defScope s__law_ring) := ⟨rfl, rfl, rfl, by decide +kernel, rfl, by decide +kernel, by decide +kernel⟩
theorem bd__law_ring (T : Top K mg h) (F__law_loops : FnR P w K mg base "_law_loops" 1 1 f__law_loops) (X : Cx) (A : Amb X (defScope s__law_ring) (defScope s__law_ring).names ["k", "b", "a"] 1) (h1 : X.prog = P) (h2 : X.w = w) (h3 : X.K = K) (h4 : X.mg = mg) (h5 : X.base = base) : SSs X W0 (defBody s__law_ring) m__law_ring := by
  subst h1 h2 h3 h4 h5
  exact (ss_one (ss_ret (se_call cf_P A F__law_loops (by decide) (by decide +kernel) (sa_cons (se_frz (sl_lc A [("a", 2)] (si_range1 A (by decide +kernel) T.z_range (se_var A (i := 0) (by decide +kernel))) (by decide +kernel) (by decide +kernel) rfl (fun s H C cl fp A1 => (sg_name A1 (i := 2) (by decide +kernel))) (fun s H C cl fp A1 => sts_nil) (fun s H C cl fp A1 => (se_frz (sl_lc A1 [("b", 1)] (si_range1 A1 (by decide +kernel) T.z_range (se_var A1 (i := 0) (by decide +kernel))) (by decide +kernel) (by decide +kernel) rfl (fun s H C cl fp A2 => (sg_name A2 (i := 1) (by decide +kernel))) (fun s H C cl fp A2 => sts_nil) (fun s H C cl fp A2 => (se_mod (se_int1 A2 T.z_int (by decide +kernel) (se_add (se_var A2 (i := 2) (by decide +kernel)) (se_var A2 (i := 1) (by decide +kernel)))) (se_var A2 (i := 0) (by decide +kernel))))))))) sa_nil))))
theorem ok__law_ring (T : Top K mg h) (F__law_loops : FnR P w K mg base "_law_loops" 1 1 f__law_loops) (Df : DefAt K "_law_ring" s__law_ring) : FnR P w K mg base "_law_ring" 2 1 f__law_ring :=
  fn_at (ps := ["k"]) T.kin T.ns Df sc__law_ring (fun _ _ _ _ _ _ us hl => match us, hl with | [_], _ => rfl) fun X A h1 h2 h3 h4 h5 => bd__law_ring T F__law_loops X A h1 h2 h3 h4 h5
abbrev s__law_begun : Stmt := top 7
theorem sc__law_begun : FnScope ["script", "k", "cells", "great", "cell", "seed"] ["script", "k"] (defScope s__law_begun) := ⟨rfl, rfl, rfl, by decide +kernel, rfl, by decide +kernel, by decide +kernel⟩
theorem bd__law_begun (T : Top K mg h) (X : Cx) (A : Amb X (defScope s__law_begun) (defScope s__law_begun).names ["script", "k", "cells", "great", "cell", "seed"] 0) (h1 : X.prog = P) (h2 : X.w = w) (h3 : X.K = K) (h4 : X.mg = mg) (h5 : X.base = base) : SSs X W0 (defBody s__law_begun) m__law_begun := by
  subst h1 h2 h3 h4 h5
  exact (ss_cons (ss_set A (i := 2) (by decide +kernel) (se_frz (sl_add (se_frz (sl_cut (se_var A (i := 0) (by decide +kernel)) (so_some (se_var A (i := 1) (by decide +kernel))) so_none)) (se_frz (sl_cut (se_var A (i := 0) (by decide +kernel)) so_none (so_some (se_var A (i := 1) (by decide +kernel))))))))
    (ss_cons (ss_lcF A (i := 3) [("cell", 4)] (by decide +kernel) (by rfl) (si_of (se_var A (i := 2) (by decide +kernel))) (by decide +kernel) (by decide +kernel) rfl (fun s H C cl fp A1 => (sg_name A1 (i := 4) (by decide +kernel))) (fun s H C cl fp A1 => (sts_one (st_ge (se_var A1 (i := 4) (by decide +kernel)) (se_pow se_int se_int)))) (fun s H C cl fp A1 => (se_var A1 (i := 4) (by decide +kernel))))
    (ss_cons (ss_set A (i := 5) (by decide +kernel) (se_add se_int (se_var A (i := 1) (by decide +kernel))))
    (ss_cons (ss_for A (si_of (se_var A (i := 2) (by decide +kernel))) (sg_name A (i := 4) (by decide +kernel)) (ss_one (ss_set A (i := 5) (by decide +kernel) (se_mod (se_int1 A T.z_int (by decide +kernel) (se_add (se_mul (se_var A (i := 5) (by decide +kernel)) se_int) (se_var A (i := 4) (by decide +kernel)))) se_int))))
    (ss_one (ss_ret (se_disp (sp_cons (se_if (st_ne A (se_var A (i := 3) (by decide +kernel)) (se_frz (sl_list sa_nil))) (se_idx (se_var A (i := 3) (by decide +kernel)) se_int) se_int) (sp_cons (se_var A (i := 5) (by decide +kernel)) (sp_cons (se_frz (sl_add (se_var A (i := 2) (by decide +kernel)) (se_frz (sl_list (sa_cons (se_add (se_mul se_int (se_var A (i := 1) (by decide +kernel))) se_int) sa_nil))))) (sp_cons se_int sp_nil)))) (by decide +kernel))))))))
theorem ok__law_begun (T : Top K mg h) (Df : DefAt K "_law_begun" s__law_begun) : FnR P w K mg base "_law_begun" 1 2 f__law_begun :=
  fn_at (ps := ["script", "k"]) T.kin T.ns Df sc__law_begun (fun _ _ _ _ _ _ us hl => match us, hl with | [_, _], _ => rfl) fun X A h1 h2 h3 h4 h5 => bd__law_begun T X A h1 h2 h3 h4 h5
abbrev s__law_between : Stmt := top 12
theorem sc__law_between : FnScope ["land", "x", "y", "f"] ["land", "x", "y"] (defScope s__law_between) := ⟨rfl, rfl, rfl, by decide +kernel, rfl, by decide +kernel, by decide +kernel⟩
theorem bd__law_between (T : Top K mg h) (X : Cx) (A : Amb X (defScope s__law_between) (defScope s__law_between).names ["land", "x", "y", "f"] 0) (h1 : X.prog = P) (h2 : X.w = w) (h3 : X.K = K) (h4 : X.mg = mg) (h5 : X.base = base) : SSs X W0 (defBody s__law_between) m__law_between := by
  subst h1 h2 h3 h4 h5
  exact (ss_one (ss_ret (se_frz (sl_lc A [("f", 3)] (si_range1 A (by decide +kernel) T.z_range (se_len A T.z_len (by decide +kernel) (se_idx (se_var A (i := 0) (by decide +kernel)) se_int))) (by decide +kernel) (by decide +kernel) rfl (fun s H C cl fp A1 => (sg_name A1 (i := 3) (by decide +kernel))) (fun s H C cl fp A1 => (sts_one (st_eq A1 (se_idx (se_idx (se_var A1 (i := 0) (by decide +kernel)) se_int) (se_var A1 (i := 3) (by decide +kernel))) (se_tup (sa_cons (se_var A1 (i := 1) (by decide +kernel)) (sa_cons (se_var A1 (i := 2) (by decide +kernel)) sa_nil)))))) (fun s H C cl fp A1 => (se_var A1 (i := 3) (by decide +kernel)))))))
theorem ok__law_between (T : Top K mg h) (Df : DefAt K "_law_between" s__law_between) : FnR P w K mg base "_law_between" 1 3 f__law_between :=
  fn_at (ps := ["land", "x", "y"]) T.kin T.ns Df sc__law_between (fun _ _ _ _ _ _ us hl => match us, hl with | [_, _, _], _ => rfl) fun X A h1 h2 h3 h4 h5 => bd__law_between T X A h1 h2 h3 h4 h5
abbrev s__law_turnable : Stmt := top 24
theorem sc__law_turnable : FnScope ["land", "found", "n", "f", "ends", "g"] ["land"] (defScope s__law_turnable) := ⟨rfl, rfl, rfl, by decide +kernel, rfl, by decide +kernel, by decide +kernel⟩
theorem bd__law_turnable (T : Top K mg h) (F__law_between : FnR P w K mg base "_law_between" 1 3 f__law_between) (X : Cx) (A : Amb X (defScope s__law_turnable) (defScope s__law_turnable).names ["land", "found", "n", "f", "ends", "g"] 1) (h1 : X.prog = P) (h2 : X.w = w) (h3 : X.K = K) (h4 : X.mg = mg) (h5 : X.base = base) : SSs X W0 (defBody s__law_turnable) m__law_turnable := by
  subst h1 h2 h3 h4 h5
  exact (ss_cons (ss_par A (i := 1) (j := 2) (by decide +kernel) (sa_cons se_dict (sa_cons (se_idx (se_var A (i := 0) (by decide +kernel)) se_int) sa_nil)) (by rfl))
    (ss_cons (ss_for A (si_enum A (by decide +kernel) T.z_enumerate (se_idx (se_var A (i := 0) (by decide +kernel)) se_int)) (sg_tup A (sgs_cons (sg_name A (i := 3) (by decide +kernel)) (sgs_cons (sg_name A (i := 4) (by decide +kernel)) sgs_nil))) (ss_one (ss_for A (si_of (se_call cf_P A F__law_between (by decide) (by decide +kernel) (sa_cons (se_var A (i := 0) (by decide +kernel)) (sa_cons (se_idx (se_var A (i := 4) (by decide +kernel)) se_int) (sa_cons (se_idx (se_var A (i := 4) (by decide +kernel)) se_int) sa_nil))))) (sg_name A (i := 5) (by decide +kernel)) (ss_one (ss_if (st_w (sw_and (st_lt (se_idx (se_idx (se_idx (se_var A (i := 0) (by decide +kernel)) se_int) (se_var A (i := 3) (by decide +kernel))) (se_var A (i := 5) (by decide +kernel))) (se_var A (i := 2) (by decide +kernel))) (sw_and (st_lt (se_idx (se_idx (se_idx (se_var A (i := 0) (by decide +kernel)) se_int) (se_var A (i := 5) (by decide +kernel))) (se_var A (i := 3) (by decide +kernel))) (se_var A (i := 2) (by decide +kernel))) (sw_and (st_ge (se_idx (se_idx (se_idx (se_var A (i := 0) (by decide +kernel)) se_int) (se_var A (i := 3) (by decide +kernel))) (se_var A (i := 5) (by decide +kernel))) se_int) (sw_and1 (st_ge (se_idx (se_idx (se_idx (se_var A (i := 0) (by decide +kernel)) se_int) (se_var A (i := 5) (by decide +kernel))) (se_var A (i := 3) (by decide +kernel))) se_int)))))) (ss_one (ss_asg A (se_var A (i := 5) (by decide +kernel)) (sg_putD A (se_var A (i := 1) (by decide +kernel)) (se_var A (i := 3) (by decide +kernel))))) ss_nil)))))
    (ss_frz (i := 1) (ss_one (ss_ret (se_var A (i := 1) (by decide +kernel)))))))
theorem ok__law_turnable (T : Top K mg h) (F__law_between : FnR P w K mg base "_law_between" 1 3 f__law_between) (Df : DefAt K "_law_turnable" s__law_turnable) : FnR P w K mg base "_law_turnable" 2 1 f__law_turnable :=
  fn_at (ps := ["land"]) T.kin T.ns Df sc__law_turnable (fun _ _ _ _ _ _ us hl => match us, hl with | [_], _ => rfl) fun X A h1 h2 h3 h4 h5 => bd__law_turnable T F__law_between X A h1 h2 h3 h4 h5
abbrev s__law_squares : Stmt := top 27
theorem sc__law_squares : FnScope ["land", "n", "ends", "table", "found", "ee", "dd", "uu", "vv"] ["land"] (defScope s__law_squares) := ⟨rfl, rfl, rfl, by decide +kernel, rfl, by decide +kernel, by decide +kernel⟩
theorem bd__law_squares (T : Top K mg h) (F__law_between : FnR P w K mg base "_law_between" 1 3 f__law_between) (X : Cx) (A : Amb X (defScope s__law_squares) (defScope s__law_squares).names ["land", "n", "ends", "table", "found", "ee", "dd", "uu", "vv"] 1) (h1 : X.prog = P) (h2 : X.w = w) (h3 : X.K = K) (h4 : X.mg = mg) (h5 : X.base = base) : SSs X W0 (defBody s__law_squares) m__law_squares := by
  subst h1 h2 h3 h4 h5
  exact (ss_cons (ss_asg A (se_var A (i := 0) (by decide +kernel)) (sg_tup A (sgs_cons (sg_name A (i := 1) (by decide +kernel)) (sgs_cons (sg_name A (i := 2) (by decide +kernel)) (sgs_cons (sg_name A (i := 3) (by decide +kernel)) sgs_nil)))))
    (ss_cons (ss_set A (i := 4) (by decide +kernel) (se_new (sl_list sa_nil)))
    (ss_cons (ss_for A (si_range1 A (by decide +kernel) T.z_range (se_len A T.z_len (by decide +kernel) (se_var A (i := 2) (by decide +kernel)))) (sg_name A (i := 5) (by decide +kernel)) (ss_one (ss_for A (si_range1 A (by decide +kernel) T.z_range (se_len A T.z_len (by decide +kernel) (se_var A (i := 2) (by decide +kernel)))) (sg_name A (i := 6) (by decide +kernel)) (ss_one (ss_for A (si_of (se_call cf_P A F__law_between (by decide) (by decide +kernel) (sa_cons (se_var A (i := 0) (by decide +kernel)) (sa_cons (se_idx (se_idx (se_var A (i := 2) (by decide +kernel)) (se_var A (i := 5) (by decide +kernel))) se_int) (sa_cons (se_idx (se_idx (se_var A (i := 2) (by decide +kernel)) (se_var A (i := 6) (by decide +kernel))) se_int) sa_nil))))) (sg_name A (i := 7) (by decide +kernel)) (ss_one (ss_for A (si_of (se_call cf_P A F__law_between (by decide) (by decide +kernel) (sa_cons (se_var A (i := 0) (by decide +kernel)) (sa_cons (se_idx (se_idx (se_var A (i := 2) (by decide +kernel)) (se_var A (i := 5) (by decide +kernel))) se_int) (sa_cons (se_idx (se_idx (se_var A (i := 2) (by decide +kernel)) (se_var A (i := 6) (by decide +kernel))) se_int) sa_nil))))) (sg_name A (i := 8) (by decide +kernel)) (ss_one (ss_if (st_eq A (se_idx (se_idx (se_var A (i := 3) (by decide +kernel)) (se_var A (i := 7) (by decide +kernel))) (se_var A (i := 6) (by decide +kernel))) (se_idx (se_idx (se_var A (i := 3) (by decide +kernel)) (se_var A (i := 5) (by decide +kernel))) (se_var A (i := 8) (by decide +kernel)))) (ss_one (ss_drop (se_append (se_var A (i := 4) (by decide +kernel)) (se_tup (sa_cons (se_var A (i := 5) (by decide +kernel)) (sa_cons (se_var A (i := 6) (by decide +kernel)) (sa_cons (se_var A (i := 7) (by decide +kernel)) (sa_cons (se_var A (i := 8) (by decide +kernel)) sa_nil)))))))) ss_nil)))))))))
    (ss_frz (i := 4) (ss_one (ss_ret (se_var A (i := 4) (by decide +kernel))))))))
theorem ok__law_squares (T : Top K mg h) (F__law_between : FnR P w K mg base "_law_between" 1 3 f__law_between) (Df : DefAt K "_law_squares" s__law_squares) : FnR P w K mg base "_law_squares" 2 1 f__law_squares :=
  fn_at (ps := ["land"]) T.kin T.ns Df sc__law_squares (fun _ _ _ _ _ _ us hl => match us, hl with | [_], _ => rfl) fun X A h1 h2 h3 h4 h5 => bd__law_squares T F__law_between X A h1 h2 h3 h4 h5
abbrev s__law_fills : Stmt := top 25
theorem sc__law_fills : FnScope ["land", "ee", "dd", "n", "ends", "table", "uu", "vv", "some", "l"] ["land", "ee", "dd"] (defScope s__law_fills) := ⟨rfl, rfl, rfl, by decide +kernel, rfl, by decide +kernel, by decide +kernel⟩
theorem bd__law_fills (T : Top K mg h) (F__law_between : FnR P w K mg base "_law_between" 1 3 f__law_between) (X : Cx) (A : Amb X (defScope s__law_fills) (defScope s__law_fills).names ["land", "ee", "dd", "n", "ends", "table", "uu", "vv", "some", "l"] 1) (h1 : X.prog = P) (h2 : X.w = w) (h3 : X.K = K) (h4 : X.mg = mg) (h5 : X.base = base) : SSs X W0 (defBody s__law_fills) m__law_fills := by
  subst h1 h2 h3 h4 h5
  exact (ss_cons (ss_asg A (se_var A (i := 0) (by decide +kernel)) (sg_tup A (sgs_cons (sg_name A (i := 3) (by decide +kernel)) (sgs_cons (sg_name A (i := 4) (by decide +kernel)) (sgs_cons (sg_name A (i := 5) (by decide +kernel)) sgs_nil)))))
    (ss_cons (ss_for A (si_of (se_call cf_P A F__law_between (by decide) (by decide +kernel) (sa_cons (se_var A (i := 0) (by decide +kernel)) (sa_cons (se_idx (se_idx (se_var A (i := 4) (by decide +kernel)) (se_var A (i := 1) (by decide +kernel))) se_int) (sa_cons (se_idx (se_idx (se_var A (i := 4) (by decide +kernel)) (se_var A (i := 2) (by decide +kernel))) se_int) sa_nil))))) (sg_name A (i := 6) (by decide +kernel)) (ss_one (ss_for A (si_of (se_call cf_P A F__law_between (by decide) (by decide +kernel) (sa_cons (se_var A (i := 0) (by decide +kernel)) (sa_cons (se_idx (se_idx (se_var A (i := 4) (by decide +kernel)) (se_var A (i := 1) (by decide +kernel))) se_int) (sa_cons (se_idx (se_idx (se_var A (i := 4) (by decide +kernel)) (se_var A (i := 2) (by decide +kernel))) se_int) sa_nil))))) (sg_name A (i := 7) (by decide +kernel)) (ss_one (ss_if (st_eq A (se_idx (se_idx (se_var A (i := 5) (by decide +kernel)) (se_var A (i := 6) (by decide +kernel))) (se_var A (i := 2) (by decide +kernel))) (se_idx (se_idx (se_var A (i := 5) (by decide +kernel)) (se_var A (i := 1) (by decide +kernel))) (se_var A (i := 7) (by decide +kernel)))) (ss_cons (ss_lcF A (i := 8) [("l", 9)] (by decide +kernel) (by rfl) (si_of (se_call cf_P A F__law_between (by decide) (by decide +kernel) (sa_cons (se_var A (i := 0) (by decide +kernel)) (sa_cons (se_idx (se_idx (se_var A (i := 4) (by decide +kernel)) (se_var A (i := 1) (by decide +kernel))) se_int) (sa_cons (se_idx (se_idx (se_var A (i := 4) (by decide +kernel)) (se_var A (i := 2) (by decide +kernel))) se_int) sa_nil))))) (by decide +kernel) (by decide +kernel) rfl (fun s H C cl fp A1 => (sg_name A1 (i := 9) (by decide +kernel))) (fun s H C cl fp A1 => (sts_one (st_w (sw_and (st_eq A1 (se_idx (se_idx (se_var A1 (i := 5) (by decide +kernel)) (se_var A1 (i := 1) (by decide +kernel))) (se_var A1 (i := 9) (by decide +kernel))) (se_var A1 (i := 6) (by decide +kernel))) (sw_and1 (st_eq A1 (se_idx (se_idx (se_var A1 (i := 5) (by decide +kernel)) (se_var A1 (i := 9) (by decide +kernel))) (se_var A1 (i := 2) (by decide +kernel))) (se_var A1 (i := 7) (by decide +kernel)))))))) (fun s H C cl fp A1 => (se_var A1 (i := 9) (by decide +kernel))))
    (ss_one (ss_if (st_ne A (se_len A T.z_len (by decide +kernel) (se_var A (i := 8) (by decide +kernel))) se_int) (ss_one (ss_ret se_bl)) ss_nil))) ss_nil)))))
    (ss_one (ss_ret se_bl))))
theorem ok__law_fills (T : Top K mg h) (F__law_between : FnR P w K mg base "_law_between" 1 3 f__law_between) (Df : DefAt K "_law_fills" s__law_fills) : FnR P w K mg base "_law_fills" 2 3 f__law_fills :=
  fn_at (ps := ["land", "ee", "dd"]) T.kin T.ns Df sc__law_fills (fun _ _ _ _ _ _ us hl => match us, hl with | [_, _, _], _ => rfl) fun X A h1 h2 h3 h4 h5 => bd__law_fills T F__law_between X A h1 h2 h3 h4 h5
abbrev s__law_fill_rows : Stmt := top 26
theorem sc__law_fill_rows : FnScope ["land", "size", "dd", "ee"] ["land"] (defScope s__law_fill_rows) := ⟨rfl, rfl, rfl, by decide +kernel, rfl, by decide +kernel, by decide +kernel⟩
theorem bd__law_fill_rows (T : Top K mg h) (F__law_fills : FnR P w K mg base "_law_fills" 2 3 f__law_fills) (X : Cx) (A : Amb X (defScope s__law_fill_rows) (defScope s__law_fill_rows).names ["land", "size", "dd", "ee"] 2) (h1 : X.prog = P) (h2 : X.w = w) (h3 : X.K = K) (h4 : X.mg = mg) (h5 : X.base = base) : SSs X W0 (defBody s__law_fill_rows) m__law_fill_rows := by
  subst h1 h2 h3 h4 h5
  exact (ss_cons (ss_set A (i := 1) (by decide +kernel) (se_len A T.z_len (by decide +kernel) (se_idx (se_var A (i := 0) (by decide +kernel)) se_int)))
    (ss_one (ss_ret (se_frz (sl_lc A [("ee", 3)] (si_range1 A (by decide +kernel) T.z_range (se_var A (i := 1) (by decide +kernel))) (by decide +kernel) (by decide +kernel) rfl (fun s H C cl fp A1 => (sg_name A1 (i := 3) (by decide +kernel))) (fun s H C cl fp A1 => sts_nil) (fun s H C cl fp A1 => (se_frz (sl_lc A1 [("dd", 2)] (si_range1 A1 (by decide +kernel) T.z_range (se_var A1 (i := 1) (by decide +kernel))) (by decide +kernel) (by decide +kernel) rfl (fun s H C cl fp A2 => (sg_name A2 (i := 2) (by decide +kernel))) (fun s H C cl fp A2 => sts_nil) (fun s H C cl fp A2 => (se_call cf_P A2 F__law_fills (by decide) (by decide +kernel) (sa_cons (se_var A2 (i := 0) (by decide +kernel)) (sa_cons (se_var A2 (i := 3) (by decide +kernel)) (sa_cons (se_var A2 (i := 2) (by decide +kernel)) sa_nil)))))))))))))
theorem ok__law_fill_rows (T : Top K mg h) (F__law_fills : FnR P w K mg base "_law_fills" 2 3 f__law_fills) (Df : DefAt K "_law_fill_rows" s__law_fill_rows) : FnR P w K mg base "_law_fill_rows" 3 1 f__law_fill_rows :=
  fn_at (ps := ["land"]) T.kin T.ns Df sc__law_fill_rows (fun _ _ _ _ _ _ us hl => match us, hl with | [_], _ => rfl) fun X A h1 h2 h3 h4 h5 => bd__law_fill_rows T F__law_fills X A h1 h2 h3 h4 h5
abbrev s_turned : Stmt := top 2
theorem sc_turned : FnScope ["world", "things", "ends", "table", "many", "x", "y", "g", "f"] ["world"] (defScope s_turned) := ⟨rfl, rfl, rfl, by decide +kernel, rfl, by decide +kernel, by decide +kernel⟩
theorem bd_turned (T : Top K mg h) (X : Cx) (A : Amb X (defScope s_turned) (defScope s_turned).names ["world", "things", "ends", "table", "many", "x", "y", "g", "f"] 0) (h1 : X.prog = P) (h2 : X.w = w) (h3 : X.K = K) (h4 : X.mg = mg) (h5 : X.base = base) : SSs X W0 (defBody s_turned) m_turned := by
  subst h1 h2 h3 h4 h5
  exact (ss_cons (ss_asg A (se_var A (i := 0) (by decide +kernel)) (sg_tup A (sgs_cons (sg_name A (i := 1) (by decide +kernel)) (sgs_cons (sg_name A (i := 2) (by decide +kernel)) (sgs_cons (sg_name A (i := 3) (by decide +kernel)) sgs_nil)))))
    (ss_cons (ss_set A (i := 4) (by decide +kernel) (se_range1 A T.z_range (by decide +kernel) (se_len A T.z_len (by decide +kernel) (se_var A (i := 2) (by decide +kernel)))))
    (ss_one (ss_ret (se_tup (sa_cons (se_var A (i := 1) (by decide +kernel)) (sa_cons (se_tuple A T.z_tuple (by decide +kernel) (se_frz (sl_lc A [("x", 5), ("y", 6)] (si_of (se_var A (i := 2) (by decide +kernel))) (by decide +kernel) (by decide +kernel) rfl (fun s H C cl fp A1 => (sg_tup A1 (sgs_cons (sg_name A1 (i := 5) (by decide +kernel)) (sgs_cons (sg_name A1 (i := 6) (by decide +kernel)) sgs_nil)))) (fun s H C cl fp A1 => sts_nil) (fun s H C cl fp A1 => (se_tup (sa_cons (se_var A1 (i := 6) (by decide +kernel)) (sa_cons (se_var A1 (i := 5) (by decide +kernel)) sa_nil))))))) (sa_cons (se_tuple A T.z_tuple (by decide +kernel) (se_frz (sl_lc A [("f", 8)] (si_of (se_var A (i := 4) (by decide +kernel))) (by decide +kernel) (by decide +kernel) rfl (fun s H C cl fp A1 => (sg_name A1 (i := 8) (by decide +kernel))) (fun s H C cl fp A1 => sts_nil) (fun s H C cl fp A1 => (se_tuple A1 T.z_tuple (by decide +kernel) (se_frz (sl_lc A1 [("g", 7)] (si_of (se_var A1 (i := 4) (by decide +kernel))) (by decide +kernel) (by decide +kernel) rfl (fun s H C cl fp A2 => (sg_name A2 (i := 7) (by decide +kernel))) (fun s H C cl fp A2 => sts_nil) (fun s H C cl fp A2 => (se_idx (se_idx (se_var A2 (i := 3) (by decide +kernel)) (se_var A2 (i := 7) (by decide +kernel))) (se_var A2 (i := 8) (by decide +kernel))))))))))) sa_nil))))))))
theorem ok_turned (T : Top K mg h) (Df : DefAt K "turned" s_turned) : FnR P w K mg base "turned" 1 1 f_turned :=
  fn_at (ps := ["world"]) T.kin T.ns Df sc_turned (fun _ _ _ _ _ _ us hl => match us, hl with | [_], _ => rfl) fun X A h1 h2 h3 h4 h5 => bd_turned T X A h1 h2 h3 h4 h5
abbrev s__law_draw : Stmt := top 8
theorem sc__law_draw : FnScope ["dd", "bound", "found", "spot", "cells", "extra", "cell", "blend"] ["dd", "bound"] (defScope s__law_draw) := ⟨rfl, rfl, rfl, by decide +kernel, rfl, by decide +kernel, by decide +kernel⟩
theorem bd__law_draw (T : Top K mg h) (X : Cx) (A : Amb X (defScope s__law_draw) (defScope s__law_draw).names ["dd", "bound", "found", "spot", "cells", "extra", "cell", "blend"] 0) (h1 : X.prog = P) (h2 : X.w = w) (h3 : X.K = K) (h4 : X.mg = mg) (h5 : X.base = base) : SSs X W0 (defBody s__law_draw) m__law_draw := by
  subst h1 h2 h3 h4 h5
  exact (ss_cons (ss_if (st_gt (se_dget A (se_var A (i := 0) (by decide +kernel)) se_str) se_int) (ss_cons (ss_set A (i := 2) (by decide +kernel) (se_mod (se_int1 A T.z_int (by decide +kernel) (se_dget A (se_var A (i := 0) (by decide +kernel)) se_str)) (se_var A (i := 1) (by decide +kernel))))
    (ss_cons (ss_asg A (se_div (se_dget A (se_var A (i := 0) (by decide +kernel)) se_str) (se_var A (i := 1) (by decide +kernel))) (sg_putD A (se_var A (i := 0) (by decide +kernel)) se_str))
    (ss_one (ss_ret (se_var A (i := 2) (by decide +kernel)))))) ss_nil)
    (ss_cons (ss_set A (i := 3) (by decide +kernel) (se_dget A (se_var A (i := 0) (by decide +kernel)) se_str))
    (ss_cons (ss_asg A (se_add (se_var A (i := 3) (by decide +kernel)) se_int) (sg_putD A (se_var A (i := 0) (by decide +kernel)) se_str))
    (ss_cons (ss_par A (i := 4) (j := 5) (by decide +kernel) (sa_cons (se_dget A (se_var A (i := 0) (by decide +kernel)) se_str) (sa_cons (se_add (se_dget A (se_var A (i := 0) (by decide +kernel)) se_str) (se_mul (se_mul se_int (se_var A (i := 3) (by decide +kernel))) (se_var A (i := 3) (by decide +kernel)))) sa_nil)) (by rfl))
    (ss_cons (ss_set A (i := 6) (by decide +kernel) (se_idx (se_var A (i := 4) (by decide +kernel)) (se_mod (se_int1 A T.z_int (by decide +kernel) (se_var A (i := 3) (by decide +kernel))) (se_len A T.z_len (by decide +kernel) (se_var A (i := 4) (by decide +kernel))))))
    (ss_cons (ss_set A (i := 7) (by decide +kernel) (se_mod (se_int1 A T.z_int (by decide +kernel) (se_add (se_mul (se_var A (i := 6) (by decide +kernel)) (se_add (se_mul se_int (se_var A (i := 3) (by decide +kernel))) se_int)) (se_var A (i := 5) (by decide +kernel)))) se_int))
    (ss_cons (ss_set A (i := 7) (by decide +kernel) (se_mod (se_int1 A T.z_int (by decide +kernel) (se_add (se_add (se_mul (se_var A (i := 7) (by decide +kernel)) (se_var A (i := 7) (by decide +kernel))) (se_mul se_int (se_var A (i := 3) (by decide +kernel)))) (se_dget A (se_var A (i := 0) (by decide +kernel)) se_str))) se_int))
    (ss_one (ss_ret (se_mod (se_div (se_mod (se_int1 A T.z_int (by decide +kernel) (se_add (se_mul (se_var A (i := 7) (by decide +kernel)) se_int) (se_var A (i := 3) (by decide +kernel)))) se_int) se_int) (se_var A (i := 1) (by decide +kernel))))))))))))
theorem ok__law_draw (T : Top K mg h) (Df : DefAt K "_law_draw" s__law_draw) : FnR P w K mg base "_law_draw" 1 2 f__law_draw :=
  fn_at (ps := ["dd", "bound"]) T.kin T.ns Df sc__law_draw (fun _ _ _ _ _ _ us hl => match us, hl with | [_, _], _ => rfl) fun X A h1 h2 h3 h4 h5 => bd__law_draw T X A h1 h2 h3 h4 h5
abbrev s__law_of : Stmt := top 9
theorem sc__law_of : FnScope ["dd", "some"] ["dd", "some"] (defScope s__law_of) := ⟨rfl, rfl, rfl, by decide +kernel, rfl, by decide +kernel, by decide +kernel⟩
theorem bd__law_of (T : Top K mg h) (F__law_draw : FnR P w K mg base "_law_draw" 1 2 f__law_draw) (X : Cx) (A : Amb X (defScope s__law_of) (defScope s__law_of).names ["dd", "some"] 1) (h1 : X.prog = P) (h2 : X.w = w) (h3 : X.K = K) (h4 : X.mg = mg) (h5 : X.base = base) : SSs X W0 (defBody s__law_of) m__law_of := by
  subst h1 h2 h3 h4 h5
  exact (ss_one (ss_ret (se_idx (se_var A (i := 1) (by decide +kernel)) (se_call cf_S A F__law_draw (by decide) (by decide +kernel) (sa_cons (se_var A (i := 0) (by decide +kernel)) (sa_cons (se_len A T.z_len (by decide +kernel) (se_var A (i := 1) (by decide +kernel))) sa_nil))))))
theorem ok__law_of (T : Top K mg h) (F__law_draw : FnR P w K mg base "_law_draw" 1 2 f__law_draw) (Df : DefAt K "_law_of" s__law_of) : FnR P w K mg base "_law_of" 2 2 f__law_of :=
  fn_at (ps := ["dd", "some"]) T.kin T.ns Df sc__law_of (fun _ _ _ _ _ _ us hl => match us, hl with | [_, _], _ => rfl) fun X A h1 h2 h3 h4 h5 => bd__law_of T F__law_draw X A h1 h2 h3 h4 h5
abbrev s__law_like : Stmt := top 10
theorem sc__law_like : FnScope ["got", "due"] ["got", "due"] (defScope s__law_like) := ⟨rfl, rfl, rfl, by decide +kernel, rfl, by decide +kernel, by decide +kernel⟩
theorem bd__law_like (T : Top K mg h) (X : Cx) (A : Amb X (defScope s__law_like) (defScope s__law_like).names ["got", "due"] 0) (h1 : X.prog = P) (h2 : X.w = w) (h3 : X.K = K) (h4 : X.mg = mg) (h5 : X.base = base) : SSs X W0 (defBody s__law_like) m__law_like := by
  subst h1 h2 h3 h4 h5
  exact (ss_one (ss_ret (se_eq A (se_repr A T.z_repr (by decide +kernel) (se_var A (i := 0) (by decide +kernel))) (se_repr A T.z_repr (by decide +kernel) (se_var A (i := 1) (by decide +kernel))))))
theorem ok__law_like (T : Top K mg h) (Df : DefAt K "_law_like" s__law_like) : FnR P w K mg base "_law_like" 1 2 f__law_like :=
  fn_at (ps := ["got", "due"]) T.kin T.ns Df sc__law_like (fun _ _ _ _ _ _ us hl => match us, hl with | [_, _], _ => rfl) fun X A h1 h2 h3 h4 h5 => bd__law_like T X A h1 h2 h3 h4 h5
abbrev s_between : Stmt := top 1
theorem sc_between : FnScope ["world", "x", "y", "f", "pair"] ["world", "x", "y"] (defScope s_between) := ⟨rfl, rfl, rfl, by decide +kernel, rfl, by decide +kernel, by decide +kernel⟩
theorem bd_between (T : Top K mg h) (X : Cx) (A : Amb X (defScope s_between) (defScope s_between).names ["world", "x", "y", "f", "pair"] 0) (h1 : X.prog = P) (h2 : X.w = w) (h3 : X.K = K) (h4 : X.mg = mg) (h5 : X.base = base) : SSs X W0 (defBody s_between) m_between := by
  subst h1 h2 h3 h4 h5
  exact (ss_one (ss_ret (se_tuple A T.z_tuple (by decide +kernel) (se_frz (sl_lc A [("f", 3), ("pair", 4)] (si_enum A (by decide +kernel) T.z_enumerate (se_idx (se_var A (i := 0) (by decide +kernel)) se_int)) (by decide +kernel) (by decide +kernel) rfl (fun s H C cl fp A1 => (sg_tup A1 (sgs_cons (sg_name A1 (i := 3) (by decide +kernel)) (sgs_cons (sg_name A1 (i := 4) (by decide +kernel)) sgs_nil)))) (fun s H C cl fp A1 => (sts_one (st_eq A1 (se_var A1 (i := 4) (by decide +kernel)) (se_tup (sa_cons (se_var A1 (i := 1) (by decide +kernel)) (sa_cons (se_var A1 (i := 2) (by decide +kernel)) sa_nil)))))) (fun s H C cl fp A1 => (se_var A1 (i := 3) (by decide +kernel))))))))
theorem ok_between (T : Top K mg h) (Df : DefAt K "between" s_between) : FnR P w K mg base "between" 1 3 f_between :=
  fn_at (ps := ["world", "x", "y"]) T.kin T.ns Df sc_between (fun _ _ _ _ _ _ us hl => match us, hl with | [_, _, _], _ => rfl) fun X A h1 h2 h3 h4 h5 => bd_between T X A h1 h2 h3 h4 h5
abbrev s_lifts : Stmt := top 4
theorem sc_lifts : FnScope ["world", "e", "m", "u", "v", "ends", "table", "found", "l"] ["world", "e", "m", "u", "v"] (defScope s_lifts) := ⟨rfl, rfl, rfl, by decide +kernel, rfl, by decide +kernel, by decide +kernel⟩
theorem bd_lifts (T : Top K mg h) (F_between : FnR P w K mg base "between" 1 3 f_between) (X : Cx) (A : Amb X (defScope s_lifts) (defScope s_lifts).names ["world", "e", "m", "u", "v", "ends", "table", "found", "l"] 1) (h1 : X.prog = P) (h2 : X.w = w) (h3 : X.K = K) (h4 : X.mg = mg) (h5 : X.base = base) : SSs X W0 (defBody s_lifts) m_lifts := by
  subst h1 h2 h3 h4 h5
  exact (ss_cons (ss_asg A (se_tup (sa_cons (se_idx (se_var A (i := 0) (by decide +kernel)) se_int) (sa_cons (se_idx (se_var A (i := 0) (by decide +kernel)) se_int) sa_nil))) (sg_tup A (sgs_cons (sg_name A (i := 5) (by decide +kernel)) (sgs_cons (sg_name A (i := 6) (by decide +kernel)) sgs_nil))))
    (ss_cons (ss_set A (i := 7) (by decide +kernel) (se_call cf_P A F_between (by decide) (by decide +kernel) (sa_cons (se_var A (i := 0) (by decide +kernel)) (sa_cons (se_idx (se_idx (se_var A (i := 5) (by decide +kernel)) (se_var A (i := 1) (by decide +kernel))) se_int) (sa_cons (se_idx (se_idx (se_var A (i := 5) (by decide +kernel)) (se_var A (i := 2) (by decide +kernel))) se_int) sa_nil)))))
    (ss_one (ss_ret (se_tuple A T.z_tuple (by decide +kernel) (se_frz (sl_lc A [("l", 8)] (si_of (se_var A (i := 7) (by decide +kernel))) (by decide +kernel) (by decide +kernel) rfl (fun s H C cl fp A1 => (sg_name A1 (i := 8) (by decide +kernel))) (fun s H C cl fp A1 => (sts_one (st_w (sw_and (st_eq A1 (se_idx (se_idx (se_var A1 (i := 6) (by decide +kernel)) (se_var A1 (i := 1) (by decide +kernel))) (se_var A1 (i := 8) (by decide +kernel))) (se_var A1 (i := 3) (by decide +kernel))) (sw_and1 (st_eq A1 (se_idx (se_idx (se_var A1 (i := 6) (by decide +kernel)) (se_var A1 (i := 8) (by decide +kernel))) (se_var A1 (i := 2) (by decide +kernel))) (se_var A1 (i := 4) (by decide +kernel)))))))) (fun s H C cl fp A1 => (se_var A1 (i := 8) (by decide +kernel))))))))))
theorem ok_lifts (T : Top K mg h) (F_between : FnR P w K mg base "between" 1 3 f_between) (Df : DefAt K "lifts" s_lifts) : FnR P w K mg base "lifts" 2 5 f_lifts :=
  fn_at (ps := ["world", "e", "m", "u", "v"]) T.kin T.ns Df sc_lifts (fun _ _ _ _ _ _ us hl => match us, hl with | [_, _, _, _, _], _ => rfl) fun X A h1 h2 h3 h4 h5 => bd_lifts T F_between X A h1 h2 h3 h4 h5
theorem ok_lifts_v_u_m_e_world (T : Top K mg h) (F_between : FnR P w K mg base "between" 1 3 f_between) (Df : DefAt K "lifts" s_lifts) : FnK P w K mg base "lifts" 2 ["v", "u", "m", "e", "world"] [4, 3, 2, 1, 0] f_lifts :=
  fn_kat (ps := ["world", "e", "m", "u", "v"]) ["v", "u", "m", "e", "world"] [4, 3, 2, 1, 0] T.kin T.ns Df sc_lifts rfl (by decide) (fun _ _ _ _ _ _ ws hl => match ws, hl with | [_, _, _, _, _], _ => rfl) fun X A h1 h2 h3 h4 h5 => bd_lifts T F_between X A h1 h2 h3 h4 h5
abbrev s_does_fill_against : Stmt := top 5
theorem sc_does_fill_against : FnScope ["world", "e", "m", "ends", "table", "counts", "l", "spot", "u", "v"] ["world", "e", "m"] (defScope s_does_fill_against) := ⟨rfl, rfl, rfl, by decide +kernel, rfl, by decide +kernel, by decide +kernel⟩
theorem bd_does_fill_against (T : Top K mg h) (F_between : FnR P w K mg base "between" 1 3 f_between) (X : Cx) (A : Amb X (defScope s_does_fill_against) (defScope s_does_fill_against).names ["world", "e", "m", "ends", "table", "counts", "l", "spot", "u", "v"] 1) (h1 : X.prog = P) (h2 : X.w = w) (h3 : X.K = K) (h4 : X.mg = mg) (h5 : X.base = base) : SSs X W0 (defBody s_does_fill_against) m_does_fill_against := by
  subst h1 h2 h3 h4 h5
  exact (ss_cons (ss_par A (i := 3) (j := 4) (by decide +kernel) (sa_cons (se_idx (se_var A (i := 0) (by decide +kernel)) se_int) (sa_cons (se_idx (se_var A (i := 0) (by decide +kernel)) se_int) sa_nil)) (by rfl))
    (ss_cons (ss_set A (i := 5) (by decide +kernel) se_dict)
    (ss_cons (ss_for A (si_of (se_call cf_P A F_between (by decide) (by decide +kernel) (sa_cons (se_var A (i := 0) (by decide +kernel)) (sa_cons (se_idx (se_idx (se_var A (i := 3) (by decide +kernel)) (se_var A (i := 1) (by decide +kernel))) se_int) (sa_cons (se_idx (se_idx (se_var A (i := 3) (by decide +kernel)) (se_var A (i := 2) (by decide +kernel))) se_int) sa_nil))))) (sg_name A (i := 6) (by decide +kernel)) (ss_cons (ss_set A (i := 7) (by decide +kernel) (se_tup (sa_cons (se_idx (se_idx (se_var A (i := 4) (by decide +kernel)) (se_var A (i := 1) (by decide +kernel))) (se_var A (i := 6) (by decide +kernel))) (sa_cons (se_idx (se_idx (se_var A (i := 4) (by decide +kernel)) (se_var A (i := 6) (by decide +kernel))) (se_var A (i := 2) (by decide +kernel))) sa_nil))))
    (ss_one (ss_asg A (se_add (se_get2 A (se_var A (i := 5) (by decide +kernel)) (sa_cons (se_var A (i := 7) (by decide +kernel)) (sa_cons se_int sa_nil))) se_int) (sg_putD A (se_var A (i := 5) (by decide +kernel)) (se_var A (i := 7) (by decide +kernel)))))))
    (ss_frz (i := 5) (ss_cons (ss_for A (si_of (se_call cf_P A F_between (by decide) (by decide +kernel) (sa_cons (se_var A (i := 0) (by decide +kernel)) (sa_cons (se_idx (se_idx (se_var A (i := 3) (by decide +kernel)) (se_var A (i := 1) (by decide +kernel))) se_int) (sa_cons (se_idx (se_idx (se_var A (i := 3) (by decide +kernel)) (se_var A (i := 2) (by decide +kernel))) se_int) sa_nil))))) (sg_name A (i := 8) (by decide +kernel)) (ss_one (ss_for A (si_of (se_call cf_P A F_between (by decide) (by decide +kernel) (sa_cons (se_var A (i := 0) (by decide +kernel)) (sa_cons (se_idx (se_idx (se_var A (i := 3) (by decide +kernel)) (se_var A (i := 1) (by decide +kernel))) se_int) (sa_cons (se_idx (se_idx (se_var A (i := 3) (by decide +kernel)) (se_var A (i := 2) (by decide +kernel))) se_int) sa_nil))))) (sg_name A (i := 9) (by decide +kernel)) (ss_one (ss_if (st_w (sw_and (st_eq A (se_idx (se_idx (se_var A (i := 4) (by decide +kernel)) (se_var A (i := 8) (by decide +kernel))) (se_var A (i := 2) (by decide +kernel))) (se_idx (se_idx (se_var A (i := 4) (by decide +kernel)) (se_var A (i := 1) (by decide +kernel))) (se_var A (i := 9) (by decide +kernel)))) (sw_and1 (st_ne A (se_get2 A (se_var A (i := 5) (by decide +kernel)) (sa_cons (se_tup (sa_cons (se_var A (i := 8) (by decide +kernel)) (sa_cons (se_var A (i := 9) (by decide +kernel)) sa_nil))) (sa_cons se_int sa_nil))) se_int)))) (ss_one (ss_ret se_bl)) ss_nil)))))
    (ss_one (ss_ret se_bl)))))))
theorem ok_does_fill_against (T : Top K mg h) (F_between : FnR P w K mg base "between" 1 3 f_between) (Df : DefAt K "does_fill_against" s_does_fill_against) : FnR P w K mg base "does_fill_against" 2 3 f_does_fill_against :=
  fn_at (ps := ["world", "e", "m"]) T.kin T.ns Df sc_does_fill_against (fun _ _ _ _ _ _ us hl => match us, hl with | [_, _, _], _ => rfl) fun X A h1 h2 h3 h4 h5 => bd_does_fill_against T F_between X A h1 h2 h3 h4 h5
theorem ok_does_fill_against_m_e_world (T : Top K mg h) (F_between : FnR P w K mg base "between" 1 3 f_between) (Df : DefAt K "does_fill_against" s_does_fill_against) : FnK P w K mg base "does_fill_against" 2 ["m", "e", "world"] [2, 1, 0] f_does_fill_against :=
  fn_kat (ps := ["world", "e", "m"]) ["m", "e", "world"] [2, 1, 0] T.kin T.ns Df sc_does_fill_against rfl (by decide) (fun _ _ _ _ _ _ ws hl => match ws, hl with | [_, _, _], _ => rfl) fun X A h1 h2 h3 h4 h5 => bd_does_fill_against T F_between X A h1 h2 h3 h4 h5
abbrev s__law_is_right : Stmt := top 28
theorem sc__law_is_right : FnScope ["dd", "land", "n", "ends", "table", "size", "rows", "back", "ee", "g", "known", "f", "both", "some", "squares", "step", "far", "uu", "vv", "l"] ["dd", "land"] (defScope s__law_is_right) := ⟨rfl, rfl, rfl, by decide +kernel, rfl, by decide +kernel, by decide +kernel⟩
theorem bd__law_is_right (T : Top K mg h) (F__law_turnable : FnR P w K mg base "_law_turnable" 2 1 f__law_turnable) (F__law_squares : FnR P w K mg base "_law_squares" 2 1 f__law_squares) (F__law_fill_rows : FnR P w K mg base "_law_fill_rows" 3 1 f__law_fill_rows) (F_turned : FnR P w K mg base "turned" 1 1 f_turned) (F__law_of : FnR P w K mg base "_law_of" 2 2 f__law_of) (F__law_like : FnR P w K mg base "_law_like" 1 2 f__law_like) (F__law_between : FnR P w K mg base "_law_between" 1 3 f__law_between) (F_lifts : FnR P w K mg base "lifts" 2 5 f_lifts) (F_does_fill_against : FnR P w K mg base "does_fill_against" 2 3 f_does_fill_against) (K_lifts_v_u_m_e_world : FnK P w K mg base "lifts" 2 ["v", "u", "m", "e", "world"] [4, 3, 2, 1, 0] f_lifts) (K_does_fill_against_m_e_world : FnK P w K mg base "does_fill_against" 2 ["m", "e", "world"] [2, 1, 0] f_does_fill_against) (X : Cx) (A : Amb X (defScope s__law_is_right) (defScope s__law_is_right).names ["dd", "land", "n", "ends", "table", "size", "rows", "back", "ee", "g", "known", "f", "both", "some", "squares", "step", "far", "uu", "vv", "l"] 3) (h1 : X.prog = P) (h2 : X.w = w) (h3 : X.K = K) (h4 : X.mg = mg) (h5 : X.base = base) : SSs X W0 (defBody s__law_is_right) m__law_is_right := by
  subst h1 h2 h3 h4 h5
  exact (ss_cons (ss_asg A (se_var A (i := 1) (by decide +kernel)) (sg_tup A (sgs_cons (sg_name A (i := 2) (by decide +kernel)) (sgs_cons (sg_name A (i := 3) (by decide +kernel)) (sgs_cons (sg_name A (i := 4) (by decide +kernel)) sgs_nil)))))
    (ss_cons (ss_asg A (se_tup (sa_cons (se_len A T.z_len (by decide +kernel) (se_var A (i := 3) (by decide +kernel))) (sa_cons (se_call cf_P A F__law_fill_rows (by decide) (by decide +kernel) (sa_cons (se_var A (i := 1) (by decide +kernel)) sa_nil)) (sa_cons (se_call cf_P A F_turned (by decide) (by decide +kernel) (sa_cons (se_var A (i := 1) (by decide +kernel)) sa_nil)) sa_nil)))) (sg_tup A (sgs_cons (sg_name A (i := 5) (by decide +kernel)) (sgs_cons (sg_name A (i := 6) (by decide +kernel)) (sgs_cons (sg_name A (i := 7) (by decide +kernel)) sgs_nil)))))
    (ss_cons (ss_for A (si_range1 A (by decide +kernel) T.z_range (se_var A (i := 5) (by decide +kernel))) (sg_name A (i := 8) (by decide +kernel)) (ss_cons (ss_if (st_not (st_val (se_call cf_P A F__law_like (by decide) (by decide +kernel) (sa_cons (se_frz (sl_lc A [("g", 9)] (si_range1 A (by decide +kernel) T.z_range (se_var A (i := 5) (by decide +kernel))) (by decide +kernel) (by decide +kernel) rfl (fun s H C cl fp A1 => (sg_name A1 (i := 9) (by decide +kernel))) (fun s H C cl fp A1 => sts_nil) (fun s H C cl fp A1 => (se_call cf_P A1 F_does_fill_against (by decide) (by decide +kernel) (sa_cons (se_var A1 (i := 1) (by decide +kernel)) (sa_cons (se_var A1 (i := 8) (by decide +kernel)) (sa_cons (se_var A1 (i := 9) (by decide +kernel)) sa_nil))))))) (sa_cons (se_idx (se_var A (i := 6) (by decide +kernel)) (se_var A (i := 8) (by decide +kernel))) sa_nil))))) (ss_one (ss_ret se_bl)) ss_nil)
    (ss_one (ss_if (st_ne A (se_frz (sl_lc A [("g", 9)] (si_range1 A (by decide +kernel) T.z_range (se_var A (i := 5) (by decide +kernel))) (by decide +kernel) (by decide +kernel) rfl (fun s H C cl fp A1 => (sg_name A1 (i := 9) (by decide +kernel))) (fun s H C cl fp A1 => (sts_one (st_ne A1 (se_call cf_P A1 F_does_fill_against (by decide) (by decide +kernel) (sa_cons (se_var A1 (i := 7) (by decide +kernel)) (sa_cons (se_var A1 (i := 9) (by decide +kernel)) (sa_cons (se_var A1 (i := 8) (by decide +kernel)) sa_nil)))) (se_idx (se_idx (se_var A1 (i := 6) (by decide +kernel)) (se_var A1 (i := 8) (by decide +kernel))) (se_var A1 (i := 9) (by decide +kernel)))))) (fun s H C cl fp A1 => (se_var A1 (i := 9) (by decide +kernel))))) (se_frz (sl_list sa_nil))) (ss_one (ss_ret se_bl)) ss_nil))))
    (ss_cons (ss_set A (i := 10) (by decide +kernel) (se_call cf_P A F__law_turnable (by decide) (by decide +kernel) (sa_cons (se_var A (i := 1) (by decide +kernel)) sa_nil)))
    (ss_cons (ss_for A (si_range1 A (by decide +kernel) T.z_range (se_var A (i := 5) (by decide +kernel))) (sg_name A (i := 11) (by decide +kernel)) (ss_cons (ss_if (st_ne A (se_idx (se_idx (se_var A (i := 6) (by decide +kernel)) (se_var A (i := 11) (by decide +kernel))) (se_var A (i := 11) (by decide +kernel))) (se_din A (se_var A (i := 11) (by decide +kernel)) (se_var A (i := 10) (by decide +kernel)))) (ss_one (ss_ret se_bl)) ss_nil)
    (ss_cons (ss_for A (si_range1 A (by decide +kernel) T.z_range (se_var A (i := 5) (by decide +kernel))) (sg_name A (i := 9) (by decide +kernel)) (ss_one (ss_if (st_w (sw_and (st_din A (se_var A (i := 11) (by decide +kernel)) (se_var A (i := 10) (by decide +kernel))) (sw_and1 (st_not (st_w (sw_and (st_val (se_idx (se_idx (se_var A (i := 6) (by decide +kernel)) (se_var A (i := 11) (by decide +kernel))) (se_var A (i := 9) (by decide +kernel)))) (sw_and1 (st_val (se_idx (se_idx (se_var A (i := 6) (by decide +kernel)) (se_var A (i := 9) (by decide +kernel))) (se_var A (i := 11) (by decide +kernel))))))))))) (ss_one (ss_ret se_bl)) ss_nil)))
    (ss_one (ss_for A (si_range1 A (by decide +kernel) T.z_range (se_var A (i := 5) (by decide +kernel))) (sg_name A (i := 9) (by decide +kernel)) (ss_cons (ss_set A (i := 12) (by decide +kernel) (se_idx (se_idx (se_var A (i := 4) (by decide +kernel)) (se_var A (i := 11) (by decide +kernel))) (se_var A (i := 9) (by decide +kernel))))
    (ss_one (ss_if (st_ge (se_var A (i := 12) (by decide +kernel)) se_int) (ss_cons (ss_lcF A (i := 13) [("ee", 8)] (by decide +kernel) (by rfl) (si_range1 A (by decide +kernel) T.z_range (se_var A (i := 5) (by decide +kernel))) (by decide +kernel) (by decide +kernel) rfl (fun s H C cl fp A1 => (sg_name A1 (i := 8) (by decide +kernel))) (fun s H C cl fp A1 => (sts_one (st_w (sw_and (st_val (se_idx (se_idx (se_var A1 (i := 6) (by decide +kernel)) (se_var A1 (i := 8) (by decide +kernel))) (se_var A1 (i := 11) (by decide +kernel)))) (sw_and1 (st_val (se_idx (se_idx (se_var A1 (i := 6) (by decide +kernel)) (se_var A1 (i := 8) (by decide +kernel))) (se_var A1 (i := 9) (by decide +kernel))))))))) (fun s H C cl fp A1 => (se_var A1 (i := 8) (by decide +kernel))))
    (ss_one (ss_if (st_ne A (se_frz (sl_lc A [("ee", 8)] (si_of (se_var A (i := 13) (by decide +kernel))) (by decide +kernel) (by decide +kernel) rfl (fun s H C cl fp A1 => (sg_name A1 (i := 8) (by decide +kernel))) (fun s H C cl fp A1 => (sts_one (st_not (st_val (se_idx (se_idx (se_var A1 (i := 6) (by decide +kernel)) (se_var A1 (i := 8) (by decide +kernel))) (se_var A1 (i := 12) (by decide +kernel))))))) (fun s H C cl fp A1 => (se_var A1 (i := 8) (by decide +kernel))))) (se_frz (sl_list sa_nil))) (ss_one (ss_ret se_bl)) ss_nil))) ss_nil))))))))
    (ss_cons (ss_set A (i := 14) (by decide +kernel) (se_call cf_P A F__law_squares (by decide) (by decide +kernel) (sa_cons (se_var A (i := 1) (by decide +kernel)) sa_nil)))
    (ss_cons (ss_for A (si_range1 A (by decide +kernel) T.z_range (se_if (st_ne A (se_var A (i := 14) (by decide +kernel)) (se_frz (sl_list sa_nil))) se_int se_int)) (sg_name A (i := 15) (by decide +kernel)) (ss_cons (ss_asg A (se_call cf_S A F__law_of (by decide) (by decide +kernel) (sa_cons (se_var A (i := 0) (by decide +kernel)) (sa_cons (se_var A (i := 14) (by decide +kernel)) sa_nil))) (sg_tup A (sgs_cons (sg_name A (i := 8) (by decide +kernel)) (sgs_cons (sg_name A (i := 16) (by decide +kernel)) (sgs_cons (sg_name A (i := 17) (by decide +kernel)) (sgs_cons (sg_name A (i := 18) (by decide +kernel)) sgs_nil))))))
    (ss_cons (ss_lcF A (i := 13) [("l", 19)] (by decide +kernel) (by rfl) (si_of (se_call cf_P A F__law_between (by decide) (by decide +kernel) (sa_cons (se_var A (i := 1) (by decide +kernel)) (sa_cons (se_idx (se_idx (se_var A (i := 3) (by decide +kernel)) (se_var A (i := 8) (by decide +kernel))) se_int) (sa_cons (se_idx (se_idx (se_var A (i := 3) (by decide +kernel)) (se_var A (i := 16) (by decide +kernel))) se_int) sa_nil))))) (by decide +kernel) (by decide +kernel) rfl (fun s H C cl fp A1 => (sg_name A1 (i := 19) (by decide +kernel))) (fun s H C cl fp A1 => (sts_one (st_w (sw_and (st_eq A1 (se_idx (se_idx (se_var A1 (i := 4) (by decide +kernel)) (se_var A1 (i := 8) (by decide +kernel))) (se_var A1 (i := 19) (by decide +kernel))) (se_var A1 (i := 17) (by decide +kernel))) (sw_and1 (st_eq A1 (se_idx (se_idx (se_var A1 (i := 4) (by decide +kernel)) (se_var A1 (i := 19) (by decide +kernel))) (se_var A1 (i := 16) (by decide +kernel))) (se_var A1 (i := 18) (by decide +kernel)))))))) (fun s H C cl fp A1 => (se_var A1 (i := 19) (by decide +kernel))))
    (ss_cons (ss_if (st_not (st_val (se_call cf_P A F__law_like (by decide) (by decide +kernel) (sa_cons (se_call cf_P A F_lifts (by decide) (by decide +kernel) (sa_cons (se_var A (i := 1) (by decide +kernel)) (sa_cons (se_var A (i := 8) (by decide +kernel)) (sa_cons (se_var A (i := 16) (by decide +kernel)) (sa_cons (se_var A (i := 17) (by decide +kernel)) (sa_cons (se_var A (i := 18) (by decide +kernel)) sa_nil)))))) (sa_cons (se_tuple A T.z_tuple (by decide +kernel) (se_var A (i := 13) (by decide +kernel))) sa_nil))))) (ss_one (ss_ret se_bl)) ss_nil)
    (ss_cons (ss_if (st_not (st_val (se_call cf_P A F__law_like (by decide) (by decide +kernel) (sa_cons (se_callK cf_P A K_lifts_v_u_m_e_world (by decide) (by decide +kernel) (sk_cons (se_var A (i := 18) (by decide +kernel)) (sk_cons (se_var A (i := 17) (by decide +kernel)) (sk_cons (se_var A (i := 16) (by decide +kernel)) (sk_cons (se_var A (i := 8) (by decide +kernel)) (sk_cons (se_var A (i := 1) (by decide +kernel)) sk_nil)))))) (sa_cons (se_tuple A T.z_tuple (by decide +kernel) (se_var A (i := 13) (by decide +kernel))) sa_nil))))) (ss_one (ss_ret se_bl)) ss_nil)
    (ss_one (ss_if (st_w (sw_and (st_notBl (se_callK cf_P A K_does_fill_against_m_e_world (by decide) (by decide +kernel) (sk_cons (se_var A (i := 16) (by decide +kernel)) (sk_cons (se_var A (i := 8) (by decide +kernel)) (sk_cons (se_var A (i := 1) (by decide +kernel)) sk_nil)))) se_bl) (sw_and1 (st_val (se_idx (se_idx (se_var A (i := 6) (by decide +kernel)) (se_var A (i := 8) (by decide +kernel))) (se_var A (i := 16) (by decide +kernel))))))) (ss_one (ss_ret se_bl)) ss_nil)))))))
    (ss_one (ss_ret se_bl)))))))))
theorem ok__law_is_right (T : Top K mg h) (F__law_turnable : FnR P w K mg base "_law_turnable" 2 1 f__law_turnable) (F__law_squares : FnR P w K mg base "_law_squares" 2 1 f__law_squares) (F__law_fill_rows : FnR P w K mg base "_law_fill_rows" 3 1 f__law_fill_rows) (F_turned : FnR P w K mg base "turned" 1 1 f_turned) (F__law_of : FnR P w K mg base "_law_of" 2 2 f__law_of) (F__law_like : FnR P w K mg base "_law_like" 1 2 f__law_like) (F__law_between : FnR P w K mg base "_law_between" 1 3 f__law_between) (F_lifts : FnR P w K mg base "lifts" 2 5 f_lifts) (F_does_fill_against : FnR P w K mg base "does_fill_against" 2 3 f_does_fill_against) (K_lifts_v_u_m_e_world : FnK P w K mg base "lifts" 2 ["v", "u", "m", "e", "world"] [4, 3, 2, 1, 0] f_lifts) (K_does_fill_against_m_e_world : FnK P w K mg base "does_fill_against" 2 ["m", "e", "world"] [2, 1, 0] f_does_fill_against) (Df : DefAt K "_law_is_right" s__law_is_right) : FnR P w K mg base "_law_is_right" 4 2 f__law_is_right :=
  fn_at (ps := ["dd", "land"]) T.kin T.ns Df sc__law_is_right (fun _ _ _ _ _ _ us hl => match us, hl with | [_, _], _ => rfl) fun X A h1 h2 h3 h4 h5 => bd__law_is_right T F__law_turnable F__law_squares F__law_fill_rows F_turned F__law_of F__law_like F__law_between F_lifts F_does_fill_against K_lifts_v_u_m_e_world K_does_fill_against_m_e_world X A h1 h2 h3 h4 h5
abbrev s__law_drawn_order : Stmt := top 22
theorem sc__law_drawn_order : FnScope ["dd", "things", "n", "near", "y", "x", "z"] ["dd", "things"] (defScope s__law_drawn_order) := ⟨rfl, rfl, rfl, by decide +kernel, rfl, by decide +kernel, by decide +kernel⟩
theorem bd__law_drawn_order (T : Top K mg h) (F__law_order : FnR P w K mg base "_law_order" 1 2 f__law_order) (F__law_draw : FnR P w K mg base "_law_draw" 1 2 f__law_draw) (X : Cx) (A : Amb X (defScope s__law_drawn_order) (defScope s__law_drawn_order).names ["dd", "things", "n", "near", "y", "x", "z"] 1) (h1 : X.prog = P) (h2 : X.w = w) (h3 : X.K = K) (h4 : X.mg = mg) (h5 : X.base = base) : SSs X W0 (defBody s__law_drawn_order) m__law_drawn_order := by
  subst h1 h2 h3 h4 h5
  exact (ss_cons (ss_asg A (se_tup (sa_cons (se_call cf_S A F__law_draw (by decide) (by decide +kernel) (sa_cons (se_var A (i := 0) (by decide +kernel)) (sa_cons (se_add (se_var A (i := 1) (by decide +kernel)) se_int) sa_nil))) (sa_cons (se_frz (sl_list sa_nil)) sa_nil))) (sg_tup A (sgs_cons (sg_name A (i := 2) (by decide +kernel)) (sgs_cons (sg_name A (i := 3) (by decide +kernel)) sgs_nil))))
    (ss_cons (ss_for A (si_range1 A (by decide +kernel) T.z_range (se_var A (i := 2) (by decide +kernel))) (sg_name A (i := 4) (by decide +kernel)) (ss_one (ss_set A (i := 3) (by decide +kernel) (se_frz (sl_add (se_var A (i := 3) (by decide +kernel)) (se_frz (sl_lc A [("x", 5)] (si_range1 A (by decide +kernel) T.z_range (se_var A (i := 4) (by decide +kernel))) (by decide +kernel) (by decide +kernel) rfl (fun s H C cl fp A1 => (sg_name A1 (i := 5) (by decide +kernel))) (fun s H C cl fp A1 => (sts_one (st_eq A1 (se_call cf_S A1 F__law_draw (by decide) (by decide +kernel) (sa_cons (se_var A1 (i := 0) (by decide +kernel)) (sa_cons se_int sa_nil))) se_int))) (fun s H C cl fp A1 => (se_tup (sa_cons (se_var A1 (i := 5) (by decide +kernel)) (sa_cons (se_var A1 (i := 4) (by decide +kernel)) sa_nil)))))))))))
    (ss_cons (ss_if (st_w (sw_and (st_gt (se_var A (i := 2) (by decide +kernel)) se_int) (sw_and1 (st_eq A (se_call cf_S A F__law_draw (by decide) (by decide +kernel) (sa_cons (se_var A (i := 0) (by decide +kernel)) (sa_cons se_int sa_nil))) se_int)))) (ss_one (ss_set A (i := 3) (by decide +kernel) (se_frz (sl_add (se_var A (i := 3) (by decide +kernel)) (se_frz (sl_list (sa_cons (se_tup (sa_cons se_int (sa_cons se_int sa_nil))) (sa_cons (se_tup (sa_cons se_int (sa_cons se_int sa_nil))) sa_nil)))))))) ss_nil)
    (ss_cons (ss_for A (si_range1 A (by decide +kernel) T.z_range (se_var A (i := 2) (by decide +kernel))) (sg_name A (i := 6) (by decide +kernel)) (ss_one (ss_for A (si_range1 A (by decide +kernel) T.z_range (se_var A (i := 2) (by decide +kernel))) (sg_name A (i := 5) (by decide +kernel)) (ss_one (ss_set A (i := 3) (by decide +kernel) (se_frz (sl_add (se_var A (i := 3) (by decide +kernel)) (se_frz (sl_lc A [("y", 4)] (si_range1 A (by decide +kernel) T.z_range (se_var A (i := 2) (by decide +kernel))) (by decide +kernel) (by decide +kernel) rfl (fun s H C cl fp A1 => (sg_name A1 (i := 4) (by decide +kernel))) (fun s H C cl fp A1 => (sts_one (st_w (sw_and (st_ne A1 (se_var A1 (i := 5) (by decide +kernel)) (se_var A1 (i := 4) (by decide +kernel))) (sw_and (st_in A1 (se_tup (sa_cons (se_var A1 (i := 5) (by decide +kernel)) (sa_cons (se_var A1 (i := 6) (by decide +kernel)) sa_nil))) (se_var A1 (i := 3) (by decide +kernel))) (sw_and (st_in A1 (se_tup (sa_cons (se_var A1 (i := 6) (by decide +kernel)) (sa_cons (se_var A1 (i := 4) (by decide +kernel)) sa_nil))) (se_var A1 (i := 3) (by decide +kernel))) (sw_and1 (st_nin A1 (se_tup (sa_cons (se_var A1 (i := 5) (by decide +kernel)) (sa_cons (se_var A1 (i := 4) (by decide +kernel)) sa_nil))) (se_var A1 (i := 3) (by decide +kernel)))))))))) (fun s H C cl fp A1 => (se_tup (sa_cons (se_var A1 (i := 5) (by decide +kernel)) (sa_cons (se_var A1 (i := 4) (by decide +kernel)) sa_nil)))))))))))))
    (ss_one (ss_ret (se_call cf_P A F__law_order (by decide) (by decide +kernel) (sa_cons (se_var A (i := 2) (by decide +kernel)) (sa_cons (se_frz (sl_sortSet A T.z_sorted (by decide +kernel) T.z_set (by decide +kernel) (se_var A (i := 3) (by decide +kernel)))) sa_nil)))))))))
theorem ok__law_drawn_order (T : Top K mg h) (F__law_order : FnR P w K mg base "_law_order" 1 2 f__law_order) (F__law_draw : FnR P w K mg base "_law_draw" 1 2 f__law_draw) (Df : DefAt K "_law_drawn_order" s__law_drawn_order) : FnR P w K mg base "_law_drawn_order" 2 2 f__law_drawn_order :=
  fn_at (ps := ["dd", "things"]) T.kin T.ns Df sc__law_drawn_order (fun _ _ _ _ _ _ us hl => match us, hl with | [_, _], _ => rfl) fun X A h1 h2 h3 h4 h5 => bd__law_drawn_order T F__law_order F__law_draw X A h1 h2 h3 h4 h5
abbrev s__law_turned : Stmt := top 17
theorem sc__law_turned : FnScope ["land", "n", "ends", "table", "size", "x", "y", "g", "f"] ["land"] (defScope s__law_turned) := ⟨rfl, rfl, rfl, by decide +kernel, rfl, by decide +kernel, by decide +kernel⟩
theorem bd__law_turned (T : Top K mg h) (X : Cx) (A : Amb X (defScope s__law_turned) (defScope s__law_turned).names ["land", "n", "ends", "table", "size", "x", "y", "g", "f"] 0) (h1 : X.prog = P) (h2 : X.w = w) (h3 : X.K = K) (h4 : X.mg = mg) (h5 : X.base = base) : SSs X W0 (defBody s__law_turned) m__law_turned := by
  subst h1 h2 h3 h4 h5
  exact (ss_cons (ss_asg A (se_var A (i := 0) (by decide +kernel)) (sg_tup A (sgs_cons (sg_name A (i := 1) (by decide +kernel)) (sgs_cons (sg_name A (i := 2) (by decide +kernel)) (sgs_cons (sg_name A (i := 3) (by decide +kernel)) sgs_nil)))))
    (ss_cons (ss_set A (i := 4) (by decide +kernel) (se_frz (sl_listR A T.z_list (by decide +kernel) (se_range1 A T.z_range (by decide +kernel) (se_len A T.z_len (by decide +kernel) (se_var A (i := 2) (by decide +kernel)))))))
    (ss_one (ss_ret (se_tup (sa_cons (se_var A (i := 1) (by decide +kernel)) (sa_cons (se_tuple A T.z_tuple (by decide +kernel) (se_frz (sl_lc A [("x", 5), ("y", 6)] (si_of (se_var A (i := 2) (by decide +kernel))) (by decide +kernel) (by decide +kernel) rfl (fun s H C cl fp A1 => (sg_tup A1 (sgs_cons (sg_name A1 (i := 5) (by decide +kernel)) (sgs_cons (sg_name A1 (i := 6) (by decide +kernel)) sgs_nil)))) (fun s H C cl fp A1 => sts_nil) (fun s H C cl fp A1 => (se_tup (sa_cons (se_var A1 (i := 6) (by decide +kernel)) (sa_cons (se_var A1 (i := 5) (by decide +kernel)) sa_nil))))))) (sa_cons (se_tuple A T.z_tuple (by decide +kernel) (se_frz (sl_lc A [("f", 8)] (si_of (se_var A (i := 4) (by decide +kernel))) (by decide +kernel) (by decide +kernel) rfl (fun s H C cl fp A1 => (sg_name A1 (i := 8) (by decide +kernel))) (fun s H C cl fp A1 => sts_nil) (fun s H C cl fp A1 => (se_tuple A1 T.z_tuple (by decide +kernel) (se_frz (sl_lc A1 [("g", 7)] (si_of (se_var A1 (i := 4) (by decide +kernel))) (by decide +kernel) (by decide +kernel) rfl (fun s H C cl fp A2 => (sg_name A2 (i := 7) (by decide +kernel))) (fun s H C cl fp A2 => sts_nil) (fun s H C cl fp A2 => (se_idx (se_idx (se_var A2 (i := 3) (by decide +kernel)) (se_var A2 (i := 7) (by decide +kernel))) (se_var A2 (i := 8) (by decide +kernel))))))))))) sa_nil))))))))
theorem ok__law_turned (T : Top K mg h) (Df : DefAt K "_law_turned" s__law_turned) : FnR P w K mg base "_law_turned" 1 1 f__law_turned :=
  fn_at (ps := ["land"]) T.kin T.ns Df sc__law_turned (fun _ _ _ _ _ _ us hl => match us, hl with | [_], _ => rfl) fun X A h1 h2 h3 h4 h5 => bd__law_turned T X A h1 h2 h3 h4 h5
abbrev s__law_closed_moves : Stmt := top 19
theorem sc__law_closed_moves : FnScope ["sizes", "moves", "most", "found", "x", "k", "move", "step", "other", "one", "two", "both", "entry"] ["sizes", "moves", "most"] (defScope s__law_closed_moves) := ⟨rfl, rfl, rfl, by decide +kernel, rfl, by decide +kernel, by decide +kernel⟩
theorem bd__law_closed_moves (T : Top K mg h) (X : Cx) (A : Amb X (defScope s__law_closed_moves) (defScope s__law_closed_moves).names ["sizes", "moves", "most", "found", "x", "k", "move", "step", "other", "one", "two", "both", "entry"] 0) (h1 : X.prog = P) (h2 : X.w = w) (h3 : X.K = K) (h4 : X.mg = mg) (h5 : X.base = base) : SSs X W0 (defBody s__law_closed_moves) m__law_closed_moves := by
  subst h1 h2 h3 h4 h5
  exact (ss_cons (ss_set A (i := 3) (by decide +kernel) (se_new (sl_lc A [("x", 4)] (si_range1 A (by decide +kernel) T.z_range (se_len A T.z_len (by decide +kernel) (se_var A (i := 0) (by decide +kernel)))) (by decide +kernel) (by decide +kernel) rfl (fun s H C cl fp A1 => (sg_name A1 (i := 4) (by decide +kernel))) (fun s H C cl fp A1 => sts_nil) (fun s H C cl fp A1 => (se_tup (sa_cons (se_var A1 (i := 4) (by decide +kernel)) (sa_cons (se_var A1 (i := 4) (by decide +kernel)) (sa_cons (se_tupleR A1 T.z_tuple (by decide +kernel) (se_range1 A1 T.z_range (by decide +kernel) (se_idx (se_var A1 (i := 0) (by decide +kernel)) (se_var A1 (i := 4) (by decide +kernel))))) sa_nil))))))))
    (ss_cons (ss_set A (i := 3) (by decide +kernel) (se_new (sl_add (se_var A (i := 3) (by decide +kernel)) (se_frz (sl_lc A [("k", 5), ("move", 6)] (si_enum A (by decide +kernel) T.z_enumerate (se_var A (i := 1) (by decide +kernel))) (by decide +kernel) (by decide +kernel) rfl (fun s H C cl fp A1 => (sg_tup A1 (sgs_cons (sg_name A1 (i := 5) (by decide +kernel)) (sgs_cons (sg_name A1 (i := 6) (by decide +kernel)) sgs_nil)))) (fun s H C cl fp A1 => (sts_one (st_w (sw_and (st_nin A1 (se_var A1 (i := 6) (by decide +kernel)) (se_var A1 (i := 3) (by decide +kernel))) (sw_and1 (st_nin A1 (se_var A1 (i := 6) (by decide +kernel)) (se_frz (sl_cut (se_var A1 (i := 1) (by decide +kernel)) so_none (so_some (se_var A1 (i := 5) (by decide +kernel))))))))))) (fun s H C cl fp A1 => (se_var A1 (i := 6) (by decide +kernel))))))))
    (ss_cons (ss_for A (si_range1 A (by decide +kernel) T.z_range (se_add (se_var A (i := 2) (by decide +kernel)) se_int)) (sg_name A (i := 7) (by decide +kernel)) (ss_cons (ss_if (st_gt (se_len A T.z_len (by decide +kernel) (se_var A (i := 3) (by decide +kernel))) (se_var A (i := 2) (by decide +kernel))) (ss_one (ss_ret se_non)) ss_nil)
    (ss_one (ss_if (st_lt (se_var A (i := 7) (by decide +kernel)) (se_len A T.z_len (by decide +kernel) (se_var A (i := 3) (by decide +kernel)))) (ss_one (ss_for A (si_of (se_frz (sl_cut (se_var A (i := 3) (by decide +kernel)) so_none so_none))) (sg_name A (i := 8) (by decide +kernel)) (ss_one (ss_for A (si_of (se_frz (sl_list (sa_cons (se_tup (sa_cons (se_idx (se_var A (i := 3) (by decide +kernel)) (se_var A (i := 7) (by decide +kernel))) (sa_cons (se_var A (i := 8) (by decide +kernel)) sa_nil))) (sa_cons (se_tup (sa_cons (se_var A (i := 8) (by decide +kernel)) (sa_cons (se_idx (se_var A (i := 3) (by decide +kernel)) (se_var A (i := 7) (by decide +kernel))) sa_nil))) sa_nil))))) (sg_tup A (sgs_cons (sg_name A (i := 9) (by decide +kernel)) (sgs_cons (sg_name A (i := 10) (by decide +kernel)) sgs_nil))) (ss_one (ss_if (st_eq A (se_idx (se_var A (i := 9) (by decide +kernel)) se_int) (se_idx (se_var A (i := 10) (by decide +kernel)) se_int)) (ss_cons (ss_set A (i := 11) (by decide +kernel) (se_tup (sa_cons (se_idx (se_var A (i := 9) (by decide +kernel)) se_int) (sa_cons (se_idx (se_var A (i := 10) (by decide +kernel)) se_int) (sa_cons (se_tuple A T.z_tuple (by decide +kernel) (se_frz (sl_lc A [("entry", 12)] (si_of (se_idx (se_var A (i := 9) (by decide +kernel)) se_int)) (by decide +kernel) (by decide +kernel) rfl (fun s H C cl fp A1 => (sg_name A1 (i := 12) (by decide +kernel))) (fun s H C cl fp A1 => sts_nil) (fun s H C cl fp A1 => (se_idx (se_idx (se_var A1 (i := 10) (by decide +kernel)) se_int) (se_var A1 (i := 12) (by decide +kernel))))))) sa_nil)))))
    (ss_one (ss_if (st_nin A (se_var A (i := 11) (by decide +kernel)) (se_var A (i := 3) (by decide +kernel))) (ss_one (ss_drop (se_append (se_var A (i := 3) (by decide +kernel)) (se_var A (i := 11) (by decide +kernel))))) ss_nil))) ss_nil)))))) ss_nil))))
    (ss_frz (i := 3) (ss_one (ss_ret (se_if (st_le (se_len A T.z_len (by decide +kernel) (se_var A (i := 3) (by decide +kernel))) (se_var A (i := 2) (by decide +kernel))) (se_var A (i := 3) (by decide +kernel)) se_non)))))))
theorem ok__law_closed_moves (T : Top K mg h) (Df : DefAt K "_law_closed_moves" s__law_closed_moves) : FnR P w K mg base "_law_closed_moves" 1 3 f__law_closed_moves :=
  fn_at (ps := ["sizes", "moves", "most"]) T.kin T.ns Df sc__law_closed_moves (fun _ _ _ _ _ _ us hl => match us, hl with | [_, _, _], _ => rfl) fun X A h1 h2 h3 h4 h5 => bd__law_closed_moves T X A h1 h2 h3 h4 h5
abbrev s__law_drawn_moves : Stmt := top 21
theorem sc__law_drawn_moves : FnScope ["dd", "things", "most", "n", "sizes", "x", "moves", "step", "y", "entry", "found"] ["dd", "things", "most"] (defScope s__law_drawn_moves) := ⟨rfl, rfl, rfl, by decide +kernel, rfl, by decide +kernel, by decide +kernel⟩
theorem bd__law_drawn_moves (T : Top K mg h) (F__law_draw : FnR P w K mg base "_law_draw" 1 2 f__law_draw) (F__law_closed_moves : FnR P w K mg base "_law_closed_moves" 1 3 f__law_closed_moves) (X : Cx) (A : Amb X (defScope s__law_drawn_moves) (defScope s__law_drawn_moves).names ["dd", "things", "most", "n", "sizes", "x", "moves", "step", "y", "entry", "found"] 1) (h1 : X.prog = P) (h2 : X.w = w) (h3 : X.K = K) (h4 : X.mg = mg) (h5 : X.base = base) : SSs X W0 (defBody s__law_drawn_moves) m__law_drawn_moves := by
  subst h1 h2 h3 h4 h5
  exact (ss_cons (ss_set A (i := 3) (by decide +kernel) (se_add se_int (se_call cf_S A F__law_draw (by decide) (by decide +kernel) (sa_cons (se_var A (i := 0) (by decide +kernel)) (sa_cons (se_var A (i := 1) (by decide +kernel)) sa_nil)))))
    (ss_cons (ss_set A (i := 4) (by decide +kernel) (se_frz (sl_lc A [("x", 5)] (si_range1 A (by decide +kernel) T.z_range (se_var A (i := 3) (by decide +kernel))) (by decide +kernel) (by decide +kernel) rfl (fun s H C cl fp A1 => (sg_name A1 (i := 5) (by decide +kernel))) (fun s H C cl fp A1 => sts_nil) (fun s H C cl fp A1 => (se_add se_int (se_call cf_S A1 F__law_draw (by decide) (by decide +kernel) (sa_cons (se_var A1 (i := 0) (by decide +kernel)) (sa_cons se_int sa_nil))))))))
    (ss_cons (ss_set A (i := 6) (by decide +kernel) (se_new (sl_list sa_nil)))
    (ss_cons (ss_for A (si_range1 A (by decide +kernel) T.z_range (se_add se_int (se_call cf_S A F__law_draw (by decide) (by decide +kernel) (sa_cons (se_var A (i := 0) (by decide +kernel)) (sa_cons (se_add (se_var A (i := 3) (by decide +kernel)) se_int) sa_nil))))) (sg_name A (i := 7) (by decide +kernel)) (ss_cons (ss_asg A (se_tup (sa_cons (se_call cf_S A F__law_draw (by decide) (by decide +kernel) (sa_cons (se_var A (i := 0) (by decide +kernel)) (sa_cons (se_var A (i := 3) (by decide +kernel)) sa_nil))) (sa_cons (se_call cf_S A F__law_draw (by decide) (by decide +kernel) (sa_cons (se_var A (i := 0) (by decide +kernel)) (sa_cons (se_var A (i := 3) (by decide +kernel)) sa_nil))) sa_nil))) (sg_tup A (sgs_cons (sg_name A (i := 5) (by decide +kernel)) (sgs_cons (sg_name A (i := 8) (by decide +kernel)) sgs_nil))))
    (ss_one (ss_drop (se_append (se_var A (i := 6) (by decide +kernel)) (se_tup (sa_cons (se_var A (i := 5) (by decide +kernel)) (sa_cons (se_var A (i := 8) (by decide +kernel)) (sa_cons (se_tuple A T.z_tuple (by decide +kernel) (se_frz (sl_lc A [("entry", 9)] (si_range1 A (by decide +kernel) T.z_range (se_idx (se_var A (i := 4) (by decide +kernel)) (se_var A (i := 5) (by decide +kernel)))) (by decide +kernel) (by decide +kernel) rfl (fun s H C cl fp A1 => (sg_name A1 (i := 9) (by decide +kernel))) (fun s H C cl fp A1 => sts_nil) (fun s H C cl fp A1 => (se_call cf_S A1 F__law_draw (by decide) (by decide +kernel) (sa_cons (se_var A1 (i := 0) (by decide +kernel)) (sa_cons (se_idx (se_var A1 (i := 4) (by decide +kernel)) (se_var A1 (i := 8) (by decide +kernel))) sa_nil))))))) sa_nil)))))))))
    (ss_frz (i := 6) (ss_cons (ss_for A (si_range1 A (by decide +kernel) T.z_range (se_len A T.z_len (by decide +kernel) (se_var A (i := 6) (by decide +kernel)))) (sg_name A (i := 7) (by decide +kernel)) (ss_cons (ss_set A (i := 10) (by decide +kernel) (se_call cf_P A F__law_closed_moves (by decide) (by decide +kernel) (sa_cons (se_var A (i := 4) (by decide +kernel)) (sa_cons (se_var A (i := 6) (by decide +kernel)) (sa_cons (se_var A (i := 2) (by decide +kernel)) sa_nil)))))
    (ss_cons (ss_if (st_notN (se_var A (i := 10) (by decide +kernel)) se_non) (ss_one (ss_ret (se_tup (sa_cons (se_var A (i := 4) (by decide +kernel)) (sa_cons (se_var A (i := 10) (by decide +kernel)) sa_nil))))) ss_nil)
    (ss_one (ss_set A (i := 6) (by decide +kernel) (se_frz (sl_cut (se_var A (i := 6) (by decide +kernel)) so_none (so_some (se_neg se_int)))))))))
    (ss_one (ss_ret (se_tup (sa_cons (se_var A (i := 4) (by decide +kernel)) (sa_cons (se_call cf_P A F__law_closed_moves (by decide) (by decide +kernel) (sa_cons (se_var A (i := 4) (by decide +kernel)) (sa_cons (se_frz (sl_list sa_nil)) (sa_cons se_int sa_nil)))) sa_nil)))))))))))
theorem ok__law_drawn_moves (T : Top K mg h) (F__law_draw : FnR P w K mg base "_law_draw" 1 2 f__law_draw) (F__law_closed_moves : FnR P w K mg base "_law_closed_moves" 1 3 f__law_closed_moves) (Df : DefAt K "_law_drawn_moves" s__law_drawn_moves) : FnR P w K mg base "_law_drawn_moves" 2 3 f__law_drawn_moves :=
  fn_at (ps := ["dd", "things", "most"]) T.kin T.ns Df sc__law_drawn_moves (fun _ _ _ _ _ _ us hl => match us, hl with | [_, _, _], _ => rfl) fun X A h1 h2 h3 h4 h5 => bd__law_drawn_moves T F__law_draw F__law_closed_moves X A h1 h2 h3 h4 h5
abbrev s__law_named : Stmt := top 11
theorem sc__law_named : FnScope ["things", "arrows", "stills", "follow", "spots", "numbers", "ends", "k", "thing", "rest", "key", "x", "y", "name", "rows", "g", "f", "one", "other", "row"] ["things", "arrows", "stills", "follow"] (defScope s__law_named) := ⟨rfl, rfl, rfl, by decide +kernel, rfl, by decide +kernel, by decide +kernel⟩
theorem bd__law_named (T : Top K mg h) (X : Cx) (A : Amb X (defScope s__law_named) (defScope s__law_named).names ["things", "arrows", "stills", "follow", "spots", "numbers", "ends", "k", "thing", "rest", "key", "x", "y", "name", "rows", "g", "f", "one", "other", "row"] 0) (h1 : X.prog = P) (h2 : X.w = w) (h3 : X.K = K) (h4 : X.mg = mg) (h5 : X.base = base) : SSs X W0 (defBody s__law_named) m__law_named := by
  subst h1 h2 h3 h4 h5
  exact (ss_cons (ss_asg A (se_tup (sa_cons se_dict (sa_cons se_dict (sa_cons (se_new (sl_list sa_nil)) sa_nil)))) (sg_tup A (sgs_cons (sg_name A (i := 4) (by decide +kernel)) (sgs_cons (sg_name A (i := 5) (by decide +kernel)) (sgs_cons (sg_name A (i := 6) (by decide +kernel)) sgs_nil)))))
    (ss_cons (ss_for A (si_enum A (by decide +kernel) T.z_enumerate (se_frz (sl_sorted A T.z_sorted (by decide +kernel) (se_var A (i := 0) (by decide +kernel))))) (sg_tup A (sgs_cons (sg_name A (i := 7) (by decide +kernel)) (sgs_cons (sg_name A (i := 8) (by decide +kernel)) sgs_nil))) (ss_cons (ss_asg A (se_var A (i := 7) (by decide +kernel)) (sg_putD A (se_var A (i := 4) (by decide +kernel)) (se_var A (i := 8) (by decide +kernel))))
    (ss_cons (ss_asg A (se_var A (i := 7) (by decide +kernel)) (sg_putD A (se_var A (i := 5) (by decide +kernel)) (se_dget A (se_var A (i := 2) (by decide +kernel)) (se_var A (i := 8) (by decide +kernel)))))
    (ss_one (ss_drop (se_append (se_var A (i := 6) (by decide +kernel)) (se_tup (sa_cons (se_var A (i := 7) (by decide +kernel)) (sa_cons (se_var A (i := 7) (by decide +kernel)) sa_nil)))))))))
    (ss_frz (i := 4) (ss_cons (ss_lcF A (i := 9) [("key", 10)] (by decide +kernel) (by rfl) (si_dict A (se_var A (i := 1) (by decide +kernel))) (by decide +kernel) (by decide +kernel) rfl (fun s H C cl fp A1 => (sg_name A1 (i := 10) (by decide +kernel))) (fun s H C cl fp A1 => (sts_one (st_dnin A1 (se_var A1 (i := 10) (by decide +kernel)) (se_var A1 (i := 5) (by decide +kernel))))) (fun s H C cl fp A1 => (se_tup (sa_cons (se_dget A1 (se_var A1 (i := 4) (by decide +kernel)) (se_idx (se_dget A1 (se_var A1 (i := 1) (by decide +kernel)) (se_var A1 (i := 10) (by decide +kernel))) se_int)) (sa_cons (se_dget A1 (se_var A1 (i := 4) (by decide +kernel)) (se_idx (se_dget A1 (se_var A1 (i := 1) (by decide +kernel)) (se_var A1 (i := 10) (by decide +kernel))) se_int)) (sa_cons (se_idx (se_dget A1 (se_var A1 (i := 1) (by decide +kernel)) (se_var A1 (i := 10) (by decide +kernel))) se_int) (sa_cons (se_var A1 (i := 10) (by decide +kernel)) sa_nil)))))))
    (ss_cons (ss_for A (si_of (se_frz (sl_sorted A T.z_sorted (by decide +kernel) (se_var A (i := 9) (by decide +kernel))))) (sg_tup A (sgs_cons (sg_name A (i := 11) (by decide +kernel)) (sgs_cons (sg_name A (i := 12) (by decide +kernel)) (sgs_cons (sg_name A (i := 13) (by decide +kernel)) (sgs_cons (sg_name A (i := 10) (by decide +kernel)) sgs_nil))))) (ss_cons (ss_asg A (se_len A T.z_len (by decide +kernel) (se_var A (i := 6) (by decide +kernel))) (sg_putD A (se_var A (i := 5) (by decide +kernel)) (se_var A (i := 10) (by decide +kernel))))
    (ss_one (ss_drop (se_append (se_var A (i := 6) (by decide +kernel)) (se_tup (sa_cons (se_var A (i := 11) (by decide +kernel)) (sa_cons (se_var A (i := 12) (by decide +kernel)) sa_nil))))))))
    (ss_frz (i := 5) (ss_frz (i := 6) (ss_cons (ss_lcF A (i := 14) [("f", 16)] (by decide +kernel) (by rfl) (si_of (se_var A (i := 6) (by decide +kernel))) (by decide +kernel) (by decide +kernel) rfl (fun s H C cl fp A1 => (sg_name A1 (i := 16) (by decide +kernel))) (fun s H C cl fp A1 => sts_nil) (fun s H C cl fp A1 => (se_new (sl_lc A1 [("g", 15)] (si_of (se_var A1 (i := 6) (by decide +kernel))) (by decide +kernel) (by decide +kernel) rfl (fun s H C cl fp A2 => (sg_name A2 (i := 15) (by decide +kernel))) (fun s H C cl fp A2 => sts_nil) (fun s H C cl fp A2 => (se_neg se_int))))))
    (ss_cons (ss_for A (si_dict A (se_var A (i := 3) (by decide +kernel))) (sg_tup A (sgs_cons (sg_name A (i := 17) (by decide +kernel)) (sgs_cons (sg_name A (i := 18) (by decide +kernel)) sgs_nil))) (ss_cons (ss_set A (i := 19) (by decide +kernel) (se_idx (se_var A (i := 14) (by decide +kernel)) (se_dget A (se_var A (i := 5) (by decide +kernel)) (se_var A (i := 17) (by decide +kernel)))))
    (ss_one (ss_asg A (se_dget A (se_var A (i := 5) (by decide +kernel)) (se_dget A (se_var A (i := 3) (by decide +kernel)) (se_tup (sa_cons (se_var A (i := 17) (by decide +kernel)) (sa_cons (se_var A (i := 18) (by decide +kernel)) sa_nil))))) (sg_setL (se_var A (i := 19) (by decide +kernel)) (se_dget A (se_var A (i := 5) (by decide +kernel)) (se_var A (i := 18) (by decide +kernel))))))))
    (ss_one (ss_ret (se_tup (sa_cons (se_tup (sa_cons (se_lenA A T.z_len (by decide +kernel) (se_var A (i := 4) (by decide +kernel))) (sa_cons (se_tuple A T.z_tuple (by decide +kernel) (se_var A (i := 6) (by decide +kernel))) (sa_cons (se_tuple A T.z_tuple (by decide +kernel) (se_frz (sl_lc A [("row", 19)] (si_of (se_var A (i := 14) (by decide +kernel))) (by decide +kernel) (by decide +kernel) rfl (fun s H C cl fp A1 => (sg_name A1 (i := 19) (by decide +kernel))) (fun s H C cl fp A1 => sts_nil) (fun s H C cl fp A1 => (se_tuple A1 T.z_tuple (by decide +kernel) (se_var A1 (i := 19) (by decide +kernel))))))) sa_nil)))) (sa_cons (se_var A (i := 4) (by decide +kernel)) (sa_cons (se_var A (i := 5) (by decide +kernel)) sa_nil)))))))))))))))
theorem ok__law_named (T : Top K mg h) (Df : DefAt K "_law_named" s__law_named) : FnR P w K mg base "_law_named" 1 4 f__law_named :=
  fn_at (ps := ["things", "arrows", "stills", "follow"]) T.kin T.ns Df sc__law_named (fun _ _ _ _ _ _ us hl => match us, hl with | [_, _, _, _], _ => rfl) fun X A h1 h2 h3 h4 h5 => bd__law_named T X A h1 h2 h3 h4 h5
abbrev s__law_world_of_moves : Stmt := top 20
theorem sc__law_world_of_moves : FnScope ["sizes", "found", "arrows", "stills", "follow", "move", "x", "size", "one", "two", "entry"] ["sizes", "found"] (defScope s__law_world_of_moves) := ⟨rfl, rfl, rfl, by decide +kernel, rfl, by decide +kernel, by decide +kernel⟩
theorem bd__law_world_of_moves (T : Top K mg h) (F__law_named : FnR P w K mg base "_law_named" 1 4 f__law_named) (X : Cx) (A : Amb X (defScope s__law_world_of_moves) (defScope s__law_world_of_moves).names ["sizes", "found", "arrows", "stills", "follow", "move", "x", "size", "one", "two", "entry"] 1) (h1 : X.prog = P) (h2 : X.w = w) (h3 : X.K = K) (h4 : X.mg = mg) (h5 : X.base = base) : SSs X W0 (defBody s__law_world_of_moves) m__law_world_of_moves := by
  subst h1 h2 h3 h4 h5
  exact (ss_cons (ss_par3 A (i := 2) (j := 3) (l := 4) (by decide +kernel) (sa_cons se_dict (sa_cons se_dict (sa_cons se_dict sa_nil))) (by rfl))
    (ss_cons (ss_for A (si_of (se_var A (i := 1) (by decide +kernel))) (sg_name A (i := 5) (by decide +kernel)) (ss_one (ss_asg A (se_tup (sa_cons (se_idx (se_var A (i := 5) (by decide +kernel)) se_int) (sa_cons (se_idx (se_var A (i := 5) (by decide +kernel)) se_int) (sa_cons (se_idx (se_var A (i := 5) (by decide +kernel)) se_int) sa_nil)))) (sg_putD A (se_var A (i := 2) (by decide +kernel)) (se_var A (i := 5) (by decide +kernel))))))
    (ss_frz (i := 2) (ss_cons (ss_for A (si_enum A (by decide +kernel) T.z_enumerate (se_var A (i := 0) (by decide +kernel))) (sg_tup A (sgs_cons (sg_name A (i := 6) (by decide +kernel)) (sgs_cons (sg_name A (i := 7) (by decide +kernel)) sgs_nil))) (ss_one (ss_asg A (se_tup (sa_cons (se_var A (i := 6) (by decide +kernel)) (sa_cons (se_var A (i := 6) (by decide +kernel)) (sa_cons (se_tupleR A T.z_tuple (by decide +kernel) (se_range1 A T.z_range (by decide +kernel) (se_var A (i := 7) (by decide +kernel)))) sa_nil)))) (sg_putD A (se_var A (i := 3) (by decide +kernel)) (se_var A (i := 6) (by decide +kernel))))))
    (ss_frz (i := 3) (ss_cons (ss_for A (si_of (se_var A (i := 1) (by decide +kernel))) (sg_name A (i := 8) (by decide +kernel)) (ss_one (ss_for A (si_of (se_var A (i := 1) (by decide +kernel))) (sg_name A (i := 9) (by decide +kernel)) (ss_one (ss_if (st_eq A (se_idx (se_var A (i := 8) (by decide +kernel)) se_int) (se_idx (se_var A (i := 9) (by decide +kernel)) se_int)) (ss_one (ss_asg A (se_tup (sa_cons (se_idx (se_var A (i := 8) (by decide +kernel)) se_int) (sa_cons (se_idx (se_var A (i := 9) (by decide +kernel)) se_int) (sa_cons (se_tuple A T.z_tuple (by decide +kernel) (se_frz (sl_lc A [("entry", 10)] (si_of (se_idx (se_var A (i := 8) (by decide +kernel)) se_int)) (by decide +kernel) (by decide +kernel) rfl (fun s H C cl fp A1 => (sg_name A1 (i := 10) (by decide +kernel))) (fun s H C cl fp A1 => sts_nil) (fun s H C cl fp A1 => (se_idx (se_idx (se_var A1 (i := 9) (by decide +kernel)) se_int) (se_var A1 (i := 10) (by decide +kernel))))))) sa_nil)))) (sg_putD A (se_var A (i := 4) (by decide +kernel)) (se_tup (sa_cons (se_var A (i := 8) (by decide +kernel)) (sa_cons (se_var A (i := 9) (by decide +kernel)) sa_nil)))))) ss_nil)))))
    (ss_frz (i := 4) (ss_one (ss_ret (se_call cf_P A F__law_named (by decide) (by decide +kernel) (sa_cons (se_frz (sl_listR A T.z_list (by decide +kernel) (se_range1 A T.z_range (by decide +kernel) (se_len A T.z_len (by decide +kernel) (se_var A (i := 0) (by decide +kernel)))))) (sa_cons (se_var A (i := 2) (by decide +kernel)) (sa_cons (se_var A (i := 3) (by decide +kernel)) (sa_cons (se_var A (i := 4) (by decide +kernel)) sa_nil))))))))))))))
theorem ok__law_world_of_moves (T : Top K mg h) (F__law_named : FnR P w K mg base "_law_named" 1 4 f__law_named) (Df : DefAt K "_law_world_of_moves" s__law_world_of_moves) : FnR P w K mg base "_law_world_of_moves" 2 2 f__law_world_of_moves :=
  fn_at (ps := ["sizes", "found"]) T.kin T.ns Df sc__law_world_of_moves (fun _ _ _ _ _ _ us hl => match us, hl with | [_, _], _ => rfl) fun X A h1 h2 h3 h4 h5 => bd__law_world_of_moves T F__law_named X A h1 h2 h3 h4 h5
abbrev s__law_sum : Stmt := top 18
theorem sc__law_sum : FnScope ["one", "other", "things", "arrows", "stills", "follow", "side", "land", "x", "f", "ends", "g"] ["one", "other"] (defScope s__law_sum) := ⟨rfl, rfl, rfl, by decide +kernel, rfl, by decide +kernel, by decide +kernel⟩
theorem bd__law_sum (T : Top K mg h) (F__law_named : FnR P w K mg base "_law_named" 1 4 f__law_named) (X : Cx) (A : Amb X (defScope s__law_sum) (defScope s__law_sum).names ["one", "other", "things", "arrows", "stills", "follow", "side", "land", "x", "f", "ends", "g"] 1) (h1 : X.prog = P) (h2 : X.w = w) (h3 : X.K = K) (h4 : X.mg = mg) (h5 : X.base = base) : SSs X W0 (defBody s__law_sum) m__law_sum := by
  subst h1 h2 h3 h4 h5
  exact (ss_cons (ss_asg A (se_tup (sa_cons (se_new (sl_list sa_nil)) (sa_cons se_dict (sa_cons se_dict (sa_cons se_dict sa_nil))))) (sg_tup A (sgs_cons (sg_name A (i := 2) (by decide +kernel)) (sgs_cons (sg_name A (i := 3) (by decide +kernel)) (sgs_cons (sg_name A (i := 4) (by decide +kernel)) (sgs_cons (sg_name A (i := 5) (by decide +kernel)) sgs_nil))))))
    (ss_cons (ss_for A (si_of (se_frz (sl_list (sa_cons (se_tup (sa_cons se_int (sa_cons (se_var A (i := 0) (by decide +kernel)) sa_nil))) (sa_cons (se_tup (sa_cons se_int (sa_cons (se_var A (i := 1) (by decide +kernel)) sa_nil))) sa_nil))))) (sg_tup A (sgs_cons (sg_name A (i := 6) (by decide +kernel)) (sgs_cons (sg_name A (i := 7) (by decide +kernel)) sgs_nil))) (ss_cons (ss_for A (si_range1 A (by decide +kernel) T.z_range (se_idx (se_var A (i := 7) (by decide +kernel)) se_int)) (sg_name A (i := 8) (by decide +kernel)) (ss_cons (ss_drop (se_append (se_var A (i := 2) (by decide +kernel)) (se_tup (sa_cons (se_var A (i := 6) (by decide +kernel)) (sa_cons (se_var A (i := 8) (by decide +kernel)) sa_nil)))))
    (ss_one (ss_asg A (se_tup (sa_cons (se_var A (i := 6) (by decide +kernel)) (sa_cons (se_var A (i := 8) (by decide +kernel)) sa_nil))) (sg_putD A (se_var A (i := 4) (by decide +kernel)) (se_tup (sa_cons (se_var A (i := 6) (by decide +kernel)) (sa_cons (se_var A (i := 8) (by decide +kernel)) sa_nil))))))))
    (ss_one (ss_for A (si_enum A (by decide +kernel) T.z_enumerate (se_idx (se_var A (i := 7) (by decide +kernel)) se_int)) (sg_tup A (sgs_cons (sg_name A (i := 9) (by decide +kernel)) (sgs_cons (sg_name A (i := 10) (by decide +kernel)) sgs_nil))) (ss_cons (ss_asg A (se_tup (sa_cons (se_tup (sa_cons (se_var A (i := 6) (by decide +kernel)) (sa_cons (se_idx (se_var A (i := 10) (by decide +kernel)) se_int) sa_nil))) (sa_cons (se_tup (sa_cons (se_var A (i := 6) (by decide +kernel)) (sa_cons (se_idx (se_var A (i := 10) (by decide +kernel)) se_int) sa_nil))) (sa_cons (se_tup (sa_cons (se_var A (i := 6) (by decide +kernel)) (sa_cons (se_var A (i := 9) (by decide +kernel)) sa_nil))) sa_nil)))) (sg_putD A (se_var A (i := 3) (by decide +kernel)) (se_tup (sa_cons (se_var A (i := 6) (by decide +kernel)) (sa_cons (se_var A (i := 9) (by decide +kernel)) sa_nil)))))
    (ss_one (ss_for A (si_range1 A (by decide +kernel) T.z_range (se_len A T.z_len (by decide +kernel) (se_idx (se_var A (i := 7) (by decide +kernel)) se_int))) (sg_name A (i := 11) (by decide +kernel)) (ss_one (ss_if (st_ge (se_idx (se_idx (se_idx (se_var A (i := 7) (by decide +kernel)) se_int) (se_var A (i := 9) (by decide +kernel))) (se_var A (i := 11) (by decide +kernel))) se_int) (ss_one (ss_asg A (se_tup (sa_cons (se_var A (i := 6) (by decide +kernel)) (sa_cons (se_idx (se_idx (se_idx (se_var A (i := 7) (by decide +kernel)) se_int) (se_var A (i := 9) (by decide +kernel))) (se_var A (i := 11) (by decide +kernel))) sa_nil))) (sg_putD A (se_var A (i := 5) (by decide +kernel)) (se_tup (sa_cons (se_tup (sa_cons (se_var A (i := 6) (by decide +kernel)) (sa_cons (se_var A (i := 9) (by decide +kernel)) sa_nil))) (sa_cons (se_tup (sa_cons (se_var A (i := 6) (by decide +kernel)) (sa_cons (se_var A (i := 11) (by decide +kernel)) sa_nil))) sa_nil)))))) ss_nil)))))))))
    (ss_frz (i := 2) (ss_frz (i := 3) (ss_frz (i := 4) (ss_frz (i := 5) (ss_one (ss_ret (se_idx (se_call cf_P A F__law_named (by decide) (by decide +kernel) (sa_cons (se_var A (i := 2) (by decide +kernel)) (sa_cons (se_var A (i := 3) (by decide +kernel)) (sa_cons (se_var A (i := 4) (by decide +kernel)) (sa_cons (se_var A (i := 5) (by decide +kernel)) sa_nil))))) se_int)))))))))
theorem ok__law_sum (T : Top K mg h) (F__law_named : FnR P w K mg base "_law_named" 1 4 f__law_named) (Df : DefAt K "_law_sum" s__law_sum) : FnR P w K mg base "_law_sum" 2 2 f__law_sum :=
  fn_at (ps := ["one", "other"]) T.kin T.ns Df sc__law_sum (fun _ _ _ _ _ _ us hl => match us, hl with | [_, _], _ => rfl) fun X A h1 h2 h3 h4 h5 => bd__law_sum T F__law_named X A h1 h2 h3 h4 h5
abbrev s__law_drawn_world : Stmt := top 23
theorem sc__law_drawn_world : FnScope ["dd", "things", "most", "word", "found", "sizes", "moves"] ["dd", "things", "most"] (defScope s__law_drawn_world) := ⟨rfl, rfl, rfl, by decide +kernel, rfl, by decide +kernel, by decide +kernel⟩
theorem bd__law_drawn_world (T : Top K mg h) (F__law_draw : FnR P w K mg base "_law_draw" 1 2 f__law_draw) (F__law_drawn_order : FnR P w K mg base "_law_drawn_order" 2 2 f__law_drawn_order) (F__law_chain : FnR P w K mg base "_law_chain" 2 1 f__law_chain) (F__law_turned : FnR P w K mg base "_law_turned" 1 1 f__law_turned) (F__law_drawn_moves : FnR P w K mg base "_law_drawn_moves" 2 3 f__law_drawn_moves) (F__law_world_of_moves : FnR P w K mg base "_law_world_of_moves" 2 2 f__law_world_of_moves) (F__law_ring : FnR P w K mg base "_law_ring" 2 1 f__law_ring) (F__law_sum : FnR P w K mg base "_law_sum" 2 2 f__law_sum) (X : Cx) (A : Amb X (defScope s__law_drawn_world) (defScope s__law_drawn_world).names ["dd", "things", "most", "word", "found", "sizes", "moves"] 2) (h1 : X.prog = P) (h2 : X.w = w) (h3 : X.K = K) (h4 : X.mg = mg) (h5 : X.base = base) : SSs X W0 (defBody s__law_drawn_world) m__law_drawn_world := by
  subst h1 h2 h3 h4 h5
  exact (ss_cons (ss_set A (i := 3) (by decide +kernel) (se_call cf_S A F__law_draw (by decide) (by decide +kernel) (sa_cons (se_var A (i := 0) (by decide +kernel)) (sa_cons se_int sa_nil))))
    (ss_cons (ss_if (st_lt (se_var A (i := 3) (by decide +kernel)) se_int) (ss_one (ss_set A (i := 4) (by decide +kernel) (se_call cf_S A F__law_drawn_order (by decide) (by decide +kernel) (sa_cons (se_var A (i := 0) (by decide +kernel)) (sa_cons (se_var A (i := 1) (by decide +kernel)) sa_nil))))) (ss_one (ss_if (st_lt (se_var A (i := 3) (by decide +kernel)) se_int) (ss_cons (ss_asg A (se_call cf_S A F__law_drawn_moves (by decide) (by decide +kernel) (sa_cons (se_var A (i := 0) (by decide +kernel)) (sa_cons (se_var A (i := 1) (by decide +kernel)) (sa_cons (se_var A (i := 2) (by decide +kernel)) sa_nil)))) (sg_tup A (sgs_cons (sg_name A (i := 5) (by decide +kernel)) (sgs_cons (sg_name A (i := 6) (by decide +kernel)) sgs_nil))))
    (ss_one (ss_set A (i := 4) (by decide +kernel) (se_idx (se_call cf_P A F__law_world_of_moves (by decide) (by decide +kernel) (sa_cons (se_var A (i := 5) (by decide +kernel)) (sa_cons (se_var A (i := 6) (by decide +kernel)) sa_nil))) se_int)))) (ss_one (ss_if (st_eq A (se_var A (i := 3) (by decide +kernel)) se_int) (ss_one (ss_set A (i := 4) (by decide +kernel) (se_call cf_P A F__law_ring (by decide) (by decide +kernel) (sa_cons (se_add se_int (se_call cf_S A F__law_draw (by decide) (by decide +kernel) (sa_cons (se_var A (i := 0) (by decide +kernel)) (sa_cons se_int sa_nil)))) sa_nil)))) (ss_one (ss_set A (i := 4) (by decide +kernel) (se_call cf_P A F__law_sum (by decide) (by decide +kernel) (sa_cons (se_call cf_P A F__law_ring (by decide) (by decide +kernel) (sa_cons (se_add se_int (se_call cf_S A F__law_draw (by decide) (by decide +kernel) (sa_cons (se_var A (i := 0) (by decide +kernel)) (sa_cons se_int sa_nil)))) sa_nil)) (sa_cons (se_call cf_P A F__law_chain (by decide) (by decide +kernel) (sa_cons (se_call cf_S A F__law_draw (by decide) (by decide +kernel) (sa_cons (se_var A (i := 0) (by decide +kernel)) (sa_cons se_int sa_nil))) sa_nil)) sa_nil))))))))))
    (ss_cons (ss_if (st_w (sw_or (st_gt (se_idx (se_var A (i := 4) (by decide +kernel)) se_int) (se_var A (i := 1) (by decide +kernel))) (sw_or1 (st_gt (se_len A T.z_len (by decide +kernel) (se_idx (se_var A (i := 4) (by decide +kernel)) se_int)) (se_var A (i := 2) (by decide +kernel)))))) (ss_one (ss_set A (i := 4) (by decide +kernel) (se_call cf_P A F__law_chain (by decide) (by decide +kernel) (sa_cons (se_min2 A T.z_min (by decide +kernel) (sa_cons se_int (sa_cons (se_var A (i := 1) (by decide +kernel)) sa_nil))) sa_nil)))) ss_nil)
    (ss_one (ss_ret (se_if (st_eq A (se_call cf_S A F__law_draw (by decide) (by decide +kernel) (sa_cons (se_var A (i := 0) (by decide +kernel)) (sa_cons se_int sa_nil))) se_int) (se_call cf_P A F__law_turned (by decide) (by decide +kernel) (sa_cons (se_var A (i := 4) (by decide +kernel)) sa_nil)) (se_var A (i := 4) (by decide +kernel))))))))
theorem ok__law_drawn_world (T : Top K mg h) (F__law_draw : FnR P w K mg base "_law_draw" 1 2 f__law_draw) (F__law_drawn_order : FnR P w K mg base "_law_drawn_order" 2 2 f__law_drawn_order) (F__law_chain : FnR P w K mg base "_law_chain" 2 1 f__law_chain) (F__law_turned : FnR P w K mg base "_law_turned" 1 1 f__law_turned) (F__law_drawn_moves : FnR P w K mg base "_law_drawn_moves" 2 3 f__law_drawn_moves) (F__law_world_of_moves : FnR P w K mg base "_law_world_of_moves" 2 2 f__law_world_of_moves) (F__law_ring : FnR P w K mg base "_law_ring" 2 1 f__law_ring) (F__law_sum : FnR P w K mg base "_law_sum" 2 2 f__law_sum) (Df : DefAt K "_law_drawn_world" s__law_drawn_world) : FnR P w K mg base "_law_drawn_world" 3 3 f__law_drawn_world :=
  fn_at (ps := ["dd", "things", "most"]) T.kin T.ns Df sc__law_drawn_world (fun _ _ _ _ _ _ us hl => match us, hl with | [_, _, _], _ => rfl) fun X A h1 h2 h3 h4 h5 => bd__law_drawn_world T F__law_draw F__law_drawn_order F__law_chain F__law_turned F__law_drawn_moves F__law_world_of_moves F__law_ring F__law_sum X A h1 h2 h3 h4 h5
abbrev s_law : Stmt := top 29
theorem sc_law : FnScope ["script", "land", "turn", "dd"] ["script"] (defScope s_law) := ⟨rfl, rfl, rfl, by decide +kernel, rfl, by decide +kernel, by decide +kernel⟩
theorem bd_law (T : Top K mg h) (F__law_chain : FnR P w K mg base "_law_chain" 2 1 f__law_chain) (F__law_ring : FnR P w K mg base "_law_ring" 2 1 f__law_ring) (F__law_loops : FnR P w K mg base "_law_loops" 1 1 f__law_loops) (F__law_begun : FnR P w K mg base "_law_begun" 1 2 f__law_begun) (F__law_is_right : FnR P w K mg base "_law_is_right" 4 2 f__law_is_right) (F__law_drawn_world : FnR P w K mg base "_law_drawn_world" 3 3 f__law_drawn_world) (X : Cx) (A : Amb X (defScope s_law) (defScope s_law).names ["script", "land", "turn", "dd"] 4) (h1 : X.prog = P) (h2 : X.w = w) (h3 : X.K = K) (h4 : X.mg = mg) (h5 : X.base = base) : SSs X W0 (defBody s_law) m_law := by
  subst h1 h2 h3 h4 h5
  exact (ss_cons (ss_for A (si_of (se_frz (sl_list (sa_cons (se_call cf_P A F__law_chain (by decide) (by decide +kernel) (sa_cons se_int sa_nil)) (sa_cons (se_call cf_P A F__law_ring (by decide) (by decide +kernel) (sa_cons se_int sa_nil)) (sa_cons (se_call cf_P A F__law_loops (by decide) (by decide +kernel) (sa_cons (se_frz (sl_list (sa_cons (se_frz (sl_list (sa_cons se_int (sa_cons se_int sa_nil)))) (sa_cons (se_frz (sl_list (sa_cons se_int (sa_cons se_int sa_nil)))) sa_nil)))) sa_nil)) (sa_cons (se_tup (sa_cons se_int (sa_cons (se_tup sa_nil) (sa_cons (se_tup sa_nil) sa_nil)))) sa_nil))))))) (sg_name A (i := 1) (by decide +kernel)) (ss_one (ss_if (st_not (st_val (se_call cf_S A F__law_is_right (by decide) (by decide +kernel) (sa_cons (se_call cf_F A F__law_begun (by decide) (by decide +kernel) (sa_cons (se_var A (i := 0) (by decide +kernel)) (sa_cons se_int sa_nil))) (sa_cons (se_var A (i := 1) (by decide +kernel)) sa_nil))))) (ss_one (ss_ret se_bl)) ss_nil)))
    (ss_cons (ss_for A (si_range1 A (by decide +kernel) T.z_range (se_max2 A T.z_max (by decide +kernel) (sa_cons se_int (sa_cons (se_min2 A T.z_min (by decide +kernel) (sa_cons (se_len A T.z_len (by decide +kernel) (se_var A (i := 0) (by decide +kernel))) (sa_cons se_int sa_nil))) sa_nil)))) (sg_name A (i := 2) (by decide +kernel)) (ss_cons (ss_set A (i := 3) (by decide +kernel) (se_call cf_F A F__law_begun (by decide) (by decide +kernel) (sa_cons (se_var A (i := 0) (by decide +kernel)) (sa_cons (se_var A (i := 2) (by decide +kernel)) sa_nil))))
    (ss_one (ss_if (st_not (st_val (se_call cf_S A F__law_is_right (by decide) (by decide +kernel) (sa_cons (se_var A (i := 3) (by decide +kernel)) (sa_cons (se_call cf_S A F__law_drawn_world (by decide) (by decide +kernel) (sa_cons (se_var A (i := 3) (by decide +kernel)) (sa_cons se_int (sa_cons se_int sa_nil)))) sa_nil))))) (ss_one (ss_ret se_bl)) ss_nil))))
    (ss_one (ss_ret se_bl))))
theorem fin {fa : Addr} (T : Top K mg h) (hfa : mg "law" = some (.ref fa)) (Df__law_order : DefAt K "_law_order" s__law_order) (Df__law_chain : DefAt K "_law_chain" s__law_chain) (Df__law_loops : DefAt K "_law_loops" s__law_loops) (Df__law_ring : DefAt K "_law_ring" s__law_ring) (Df__law_begun : DefAt K "_law_begun" s__law_begun) (Df__law_between : DefAt K "_law_between" s__law_between) (Df__law_turnable : DefAt K "_law_turnable" s__law_turnable) (Df__law_squares : DefAt K "_law_squares" s__law_squares) (Df__law_fills : DefAt K "_law_fills" s__law_fills) (Df__law_fill_rows : DefAt K "_law_fill_rows" s__law_fill_rows) (Df_turned : DefAt K "turned" s_turned) (Df__law_draw : DefAt K "_law_draw" s__law_draw) (Df__law_of : DefAt K "_law_of" s__law_of) (Df__law_like : DefAt K "_law_like" s__law_like) (Df_between : DefAt K "between" s_between) (Df_lifts : DefAt K "lifts" s_lifts) (Df_does_fill_against : DefAt K "does_fill_against" s_does_fill_against) (Df__law_is_right : DefAt K "_law_is_right" s__law_is_right) (Df__law_drawn_order : DefAt K "_law_drawn_order" s__law_drawn_order) (Df__law_turned : DefAt K "_law_turned" s__law_turned) (Df__law_closed_moves : DefAt K "_law_closed_moves" s__law_closed_moves) (Df__law_drawn_moves : DefAt K "_law_drawn_moves" s__law_drawn_moves) (Df__law_named : DefAt K "_law_named" s__law_named) (Df__law_world_of_moves : DefAt K "_law_world_of_moves" s__law_world_of_moves) (Df__law_sum : DefAt K "_law_sum" s__law_sum) (Df__law_drawn_world : DefAt K "_law_drawn_world" s__law_drawn_world) (Df_law : DefAt K "law" s_law) :
    ∃ fd : FuncData, (∀ (s : Shared) (u : Value), BindsTo s fd ⟨[u], []⟩ [("script", u)]) ∧ ∀ base : Heap, K.In base → base.Ns mainGlobals mg → FnG P w K mg base 5 fa fd ["script"] (spF P w K 1 f_law) := by
  refine law_end T.kin T.ns hfa Df_law sc_law (fun _ _ _ _ _ _ _ => rfl) ?_
  intro base
  have F__law_order : FnR P w K mg base "_law_order" 1 2 f__law_order := ok__law_order T Df__law_order
  have F__law_chain : FnR P w K mg base "_law_chain" 2 1 f__law_chain := ok__law_chain T F__law_order Df__law_chain
  have F__law_loops : FnR P w K mg base "_law_loops" 1 1 f__law_loops := ok__law_loops T Df__law_loops
  have F__law_ring : FnR P w K mg base "_law_ring" 2 1 f__law_ring := ok__law_ring T F__law_loops Df__law_ring
  have F__law_begun : FnR P w K mg base "_law_begun" 1 2 f__law_begun := ok__law_begun T Df__law_begun
  have F__law_between : FnR P w K mg base "_law_between" 1 3 f__law_between := ok__law_between T Df__law_between
  have F__law_turnable : FnR P w K mg base "_law_turnable" 2 1 f__law_turnable := ok__law_turnable T F__law_between Df__law_turnable
  have F__law_squares : FnR P w K mg base "_law_squares" 2 1 f__law_squares := ok__law_squares T F__law_between Df__law_squares
  have F__law_fills : FnR P w K mg base "_law_fills" 2 3 f__law_fills := ok__law_fills T F__law_between Df__law_fills
  have F__law_fill_rows : FnR P w K mg base "_law_fill_rows" 3 1 f__law_fill_rows := ok__law_fill_rows T F__law_fills Df__law_fill_rows
  have F_turned : FnR P w K mg base "turned" 1 1 f_turned := ok_turned T Df_turned
  have F__law_draw : FnR P w K mg base "_law_draw" 1 2 f__law_draw := ok__law_draw T Df__law_draw
  have F__law_of : FnR P w K mg base "_law_of" 2 2 f__law_of := ok__law_of T F__law_draw Df__law_of
  have F__law_like : FnR P w K mg base "_law_like" 1 2 f__law_like := ok__law_like T Df__law_like
  have F_between : FnR P w K mg base "between" 1 3 f_between := ok_between T Df_between
  have F_lifts : FnR P w K mg base "lifts" 2 5 f_lifts := ok_lifts T F_between Df_lifts
  have K_lifts_v_u_m_e_world : FnK P w K mg base "lifts" 2 ["v", "u", "m", "e", "world"] [4, 3, 2, 1, 0] f_lifts := ok_lifts_v_u_m_e_world T F_between Df_lifts
  have F_does_fill_against : FnR P w K mg base "does_fill_against" 2 3 f_does_fill_against := ok_does_fill_against T F_between Df_does_fill_against
  have K_does_fill_against_m_e_world : FnK P w K mg base "does_fill_against" 2 ["m", "e", "world"] [2, 1, 0] f_does_fill_against := ok_does_fill_against_m_e_world T F_between Df_does_fill_against
  have F__law_is_right : FnR P w K mg base "_law_is_right" 4 2 f__law_is_right := ok__law_is_right T F__law_turnable F__law_squares F__law_fill_rows F_turned F__law_of F__law_like F__law_between F_lifts F_does_fill_against K_lifts_v_u_m_e_world K_does_fill_against_m_e_world Df__law_is_right
  have F__law_drawn_order : FnR P w K mg base "_law_drawn_order" 2 2 f__law_drawn_order := ok__law_drawn_order T F__law_order F__law_draw Df__law_drawn_order
  have F__law_turned : FnR P w K mg base "_law_turned" 1 1 f__law_turned := ok__law_turned T Df__law_turned
  have F__law_closed_moves : FnR P w K mg base "_law_closed_moves" 1 3 f__law_closed_moves := ok__law_closed_moves T Df__law_closed_moves
  have F__law_drawn_moves : FnR P w K mg base "_law_drawn_moves" 2 3 f__law_drawn_moves := ok__law_drawn_moves T F__law_draw F__law_closed_moves Df__law_drawn_moves
  have F__law_named : FnR P w K mg base "_law_named" 1 4 f__law_named := ok__law_named T Df__law_named
  have F__law_world_of_moves : FnR P w K mg base "_law_world_of_moves" 2 2 f__law_world_of_moves := ok__law_world_of_moves T F__law_named Df__law_world_of_moves
  have F__law_sum : FnR P w K mg base "_law_sum" 2 2 f__law_sum := ok__law_sum T F__law_named Df__law_sum
  have F__law_drawn_world : FnR P w K mg base "_law_drawn_world" 3 3 f__law_drawn_world := ok__law_drawn_world T F__law_draw F__law_drawn_order F__law_chain F__law_turned F__law_drawn_moves F__law_world_of_moves F__law_ring F__law_sum Df__law_drawn_world
  exact bd_law T F__law_chain F__law_ring F__law_loops F__law_begun F__law_is_right F__law_drawn_world
end
end L_TE
set_option linter.all false
set_option maxRecDepth 100000
namespace Mi
open PySem L2 L_TE
local macro_rules | `(tactic| simp_arith [$ls,*]) => `(tactic| simp [runF, sSeq, sIf, sAsg, sRet, sRetN, sNext, sDrop, sBrk, sCont, sPar, gName, gTup, gSeq, gSub, eOp1, eOp2, eVar, eC, eBlt, lBlt, lOp1, lOp2, sl3, aOne, aCons, aNil, eTup, lOf, eFrz, eNew, eIf, eB, tB, tNot, tAnd, tOr, tOp2, tChain, eAnd, eOr, eCall, eMth, Res.toS, SRes.seq, SRes.only, Res.bind, iOf, items, iRange1, iRange2, iEnum, enumOf, range1, range2, sFrz, b2, i2, i2c, gtD, ltD, leD, geD, subD, mulD, modD, divD, intD, isN, notN, D.isNon, negD, sizeLine_eq, $ls,*])
/-! ### the state that draws are taken from -/
def drOb (a s : Int) (cs : List Int) (p : Int) : Ob := .dct false [.str "left", .str "seed", .str "cells", .str "spot"] [.int a, .int s, .lst (cs.map D.int), .int p]
/-- k draws are left at least -/
structure Dr (k : Nat) (S : Store) (l : Nat) : Prop where
  ex : ∃ a s cs p, S[l]? = some (some (drOb a s cs p)) ∧ 0 ≤ p ∧ p + (k : Int) < 2 ^ 40 ∧ cs ≠ []
section
variable {S : Store} {l : Nat} {a s p : Int} {cs : List Int}
theorem rd_dr (h : S[l]? = some (some (drOb a s cs p))) : rd (.loc l) S = some (.dct false [.str "left", .str "seed", .str "cells", .str "spot"] [.int a, .int s, .lst (cs.map D.int), .int p]) := by
  unfold rd
  dsimp only
  rw [h]
  rfl
theorem dr_left (h : S[l]? = some (some (drOb a s cs p))) : dIdx (.loc l) (.str "left") S = .ok (.int a) S := by
  unfold dIdx dLook
  rw [rd_dr h]
  rfl
theorem dr_seed (h : S[l]? = some (some (drOb a s cs p))) : dIdx (.loc l) (.str "seed") S = .ok (.int s) S := by
  unfold dIdx dLook
  rw [rd_dr h]
  rfl
theorem dr_cells (h : S[l]? = some (some (drOb a s cs p))) : dIdx (.loc l) (.str "cells") S = .ok (.lst (cs.map D.int)) S := by
  unfold dIdx dLook
  rw [rd_dr h]
  rfl
theorem dr_spot (h : S[l]? = some (some (drOb a s cs p))) : dIdx (.loc l) (.str "spot") S = .ok (.int p) S := by
  unfold dIdx dLook
  rw [rd_dr h]
  rfl
theorem dr_putLeft (h : S[l]? = some (some (drOb a s cs p))) (b : Int) : putD (.loc l) (.str "left") (.int b) S = .ok () (S.set l (some (drOb b s cs p))) := by
  unfold putD
  dsimp only
  rw [h]
  rfl
theorem dr_putSpot (h : S[l]? = some (some (drOb a s cs p))) (b : Int) : putD (.loc l) (.str "spot") (.int b) S = .ok () (S.set l (some (drOb a s cs b))) := by
  unfold putD
  dsimp only
  rw [h]
  rfl
/-! ### a draw -/
theorem draw_ok {k : Nat} {S : Store} {l : Nat} {b : Int} (h : Dr (k + 1) S l) (hb : 0 < b) (hb2 : b < 1073741824) : ∃ r S', f__law_draw [.loc l, .int b] S = .ok (.int r) S' ∧ 0 ≤ r ∧ r < b ∧ Dr k S' l ∧ S'.length = S.length ∧ ∀ j, j ≠ l → S'[j]? = S[j]? := by
  obtain ⟨a, s, cs, p, e, h0, h1, hc⟩ := h.ex
  by_cases ha : 0 < a
  · refine ⟨a % b, S.set l (some (drOb (a / b) s cs p)), ?_, Int.emod_nonneg _ (by omega), Int.emod_lt_of_pos _ hb, ⟨⟨a / b, s, cs, p, ?_, h0, by omega, hc⟩⟩, by simp, fun j hj => List.getElem?_set_ne (Ne.symm hj)⟩
    · simp_arith [f__law_draw, m__law_draw, dr_left e, dr_putLeft e, hb, hb2, ha]
    · exact List.getElem?_set_self (List.getElem?_eq_some_iff.mp e).1
  · have hl : l < S.length := (List.getElem?_eq_some_iff.mp e).1
    have e2 : (S.set l (some (drOb a s cs (p + 1))))[l]? = some (some (drOb a s cs (p + 1))) := List.getElem?_set_self hl
    have len : 0 < cs.length := List.length_pos_iff.mpr hc
    have p0 : 0 ≤ p % (cs.length : Int) := Int.emod_nonneg _ (by omega)
    have p1 : p % (cs.length : Int) < cs.length := Int.emod_lt_of_pos _ (by omega)
    obtain ⟨c, hcell⟩ : ∃ c, idxS (.lst (cs.map D.int)) (.int (p % (cs.length : Int))) (S.set l (some (drOb a s cs (p + 1)))) = .ok (.int c) (S.set l (some (drOb a s cs (p + 1)))) := by
      refine ⟨cs[(p % (cs.length : Int)).toNat]'(by omega), (idx_lst p0 (by simpa using p1)).trans ?_⟩
      rw [List.getElem_map]
    have m1 : mulC 40503 p = true := by unfold mulC; simp
    have m2 : mulC (40503 * p) p = true := by unfold mulC; simp; omega
    have m3 : mulC 2 p = true := by unfold mulC; simp
    have m4 : mulC c (2 * p + 3) = true := by unfold mulC; simp; omega
    have m5 : mulC 69621 p = true := by unfold mulC; simp
    generalize hx : (c * (2 * p + 3) + (s + 40503 * p * p)) % 2147483647 = x
    have x0 : 0 ≤ x := by rw [← hx]; exact Int.emod_nonneg _ (by omega)
    have x1 : x < 2147483647 := by rw [← hx]; exact Int.emod_lt_of_pos _ (by omega)
    have m6 : mulC x x = true := by unfold mulC; simp; omega
    generalize hy : (x * x + 69621 * p + s) % 2147483629 = y
    have m7 : mulC y 48271 = true := by unfold mulC; simp
    refine ⟨(y * 48271 + p) % 2147483647 / 11 % b, S.set l (some (drOb a s cs (p + 1))), ?_, Int.emod_nonneg _ (by omega), Int.emod_lt_of_pos _ hb, ⟨⟨a, s, cs, p + 1, e2, by omega, by omega, hc⟩⟩, by simp, fun j hj => List.getElem?_set_ne (Ne.symm hj)⟩
    simp_arith [f__law_draw, m__law_draw, dr_left e, dr_spot e, dr_putSpot e, dr_cells e2, dr_seed e2, hb, hb2, ha, len_lst, add_int, len, hcell, m1, m2, m3, m4, m5, hx, m6, hy, m7]
end
end Mi
set_option linter.all false
set_option maxRecDepth 100000
namespace Mi
open PySem L2 L_TE
local macro_rules | `(tactic| simp_arith [$ls,*]) => `(tactic| simp [runF, sSeq, sIf, sAsg, sRet, sRetN, sNext, sDrop, sBrk, sCont, sPar, gName, gTup, gSeq, gSub, eOp1, eOp2, eVar, eC, eBlt, lBlt, lOp1, lOp2, sl3, aOne, aCons, aNil, eTup, lOf, eFrz, eNew, eIf, eB, tB, tNot, tAnd, tOr, tOp2, tChain, eAnd, eOr, eCall, eMth, Res.toS, SRes.seq, SRes.only, Res.bind, iOf, items, iRange1, iRange2, iEnum, enumOf, range1, range2, sFrz, b2, i2, i2c, gtD, ltD, leD, geD, subD, mulD, modD, divD, intD, isN, notN, D.isNon, negD, sizeLine_eq, $ls,*])
/-! ### worlds -/
structure Wd where
  n : Nat
  m : Nat
  s : Nat → Nat
  t : Nat → Nat
  c : Nat → Nat → Int
namespace Wd
variable (W : Wd)
def eD (f : Nat) : D := .tup [.int (W.s f : Nat), .int (W.t f : Nat)]
def rD (f : Nat) : D := .tup ((List.range W.m).map fun g => .int (W.c f g))
def D : Mi.D := .tup [.int (W.n : Nat), .tup ((List.range W.m).map W.eD), .tup ((List.range W.m).map W.rD)]
/-- turned about -/
def op : Wd := ⟨W.n, W.m, W.t, W.s, fun f g => W.c g f⟩
/-- small enough for the machine -/
def fits : Prop := W.m ≤ 10000 ∧ W.n ≤ 10000
end Wd
theorem wEnds (W : Wd) (S : Store) : idxS W.D (.int 1) S = .ok (.tup ((List.range W.m).map W.eD)) S := idx_1
theorem wTab (W : Wd) (S : Store) : idxS W.D (.int 2) S = .ok (.tup ((List.range W.m).map W.rD)) S := idx_2
theorem wN (W : Wd) (S : Store) : idxS W.D (.int 0) S = .ok (.int (W.n : Nat)) S := idx_0
theorem wRow (W : Wd) {g : Nat} (f : Nat) (h : g < W.m) (S : Store) : idxS (W.rD f) (.int (g : Nat)) S = .ok (.int (W.c f g)) S := idx_rng _ h
theorem wSrc (W : Wd) (f : Nat) (S : Store) : idxS (W.eD f) (.int 0) S = .ok (.int (W.s f : Nat)) S := idx_0
theorem wDst (W : Wd) (f : Nat) (S : Store) : idxS (W.eD f) (.int 1) S = .ok (.int (W.t f : Nat)) S := idx_1
theorem big : 10000 ≤ sizeLine := Nat.le_trans (by decide : 10000 ≤ 16777216) (Nat.le_of_eq sizeLine_eq.symm)
theorem le62 {m : Nat} (h : m ≤ 10000) : m < 2 ^ 62 := Nat.lt_of_le_of_lt h (by decide)
theorem rngB_ok (m : Nat) (h : m ≤ 10000) : rngB 0 (m : Int) = true := rngB_nat (le62 h)
theorem walk_n {m : Nat} (h : m ≤ 10000) {a : EM} {ρ : Env} {S S1 : Store} (ha : a ρ S = .ok (.int (m : Nat)) S1) : iRange1 a ρ S = .ok ((List.range m).map fun i => Mi.D.int (i : Nat)) S1 := by
  unfold iRange1
  rw [ha, Res.bind_ok]
  exact it_range (le62 h)
theorem b_pair {a b c d : Nat} : ((a : Int) == (c : Int) && (b : Int) == (d : Int)) = (a == c && b == d) := by
  rw [Bool.eq_iff_iff]
  simp only [Bool.and_eq_true, beq_iff_eq]
  omega
section
variable {W : Wd} (h : W.m ≤ 10000) {S : Store}
include h
theorem c1_lturned_ok {a b c : Option Mi.D} {d e f g : Option Mi.D} : c1__law_turned [a, b, some (.tup ((List.range W.m).map W.eD)), c, d, e, f, g, none] S = .ok ((List.range W.m).map W.op.eD) S := by
  unfold c1__law_turned
  refine comp_map W.eD _ (by simp_arith []) (fun i hi => ⟨_, by simp_arith [Wd.eD, wipe]; rfl, ?_⟩) (by rw [List.length_range]; exact Nat.le_trans h big)
  simp_arith [Wd.op, Wd.eD]
theorem c2_lturned_ok {a b c d e f : Option Mi.D} {j : Nat} (hj : j < W.m) : c2__law_turned [a, b, c, some (.tup ((List.range W.m).map W.rD)), some (.lst ((List.range W.m).map fun i => .int (i : Nat))), d, e, f, some (.int (j : Nat))] S = .ok ((List.range W.m).map fun g => .int (W.c g j)) S := by
  unfold c2__law_turned
  refine comp_map (fun i : Nat => Mi.D.int (i : Nat)) _ (by simp_arith []) (fun i hi => ⟨_, rfl, ?_⟩) (by rw [List.length_range]; exact Nat.le_trans h big)
  have hi := List.mem_range.mp hi
  simp_arith [wipe, idx_rng _ hi, wRow _ _ hj]
theorem c3_lturned_ok {a b c d e f : Option Mi.D} {g : Option Mi.D} : c3__law_turned [a, b, c, some (.tup ((List.range W.m).map W.rD)), some (.lst ((List.range W.m).map fun i => .int (i : Nat))), d, e, f, g] S = .ok ((List.range W.m).map W.op.rD) S := by
  unfold c3__law_turned
  refine comp_map (fun i : Nat => Mi.D.int (i : Nat)) _ (by simp_arith []) (fun i hi => ⟨_, rfl, ?_⟩) (by rw [List.length_range]; exact Nat.le_trans h big)
  have hi := List.mem_range.mp hi
  simp_arith [wipe, c2_lturned_ok h hi, tupD, rd, Wd.op, Wd.rD]
theorem lstR_nat : lstR [.rng 0 (W.m : Nat)] S = .ok ((List.range W.m).map fun i => .int (i : Nat)) S := by
  unfold lstR
  dsimp only
  rw [if_pos, intsD_zero']
  unfold rgB
  rw [rngB_ok _ h]
  simp
  omega
theorem lturned_ok : f__law_turned [W.D] S = .ok W.op.D S := by
  simp_arith [f__law_turned, m__law_turned, Wd.D, len_tup, rng2, lstR_nat h, c1_lturned_ok h, c3_lturned_ok h, tupD, rd]
  exact ⟨rfl, rfl, rfl⟩
end
end Mi
set_option linter.all false
set_option maxRecDepth 100000
namespace Mi
open PySem L2 L_TE
local macro_rules | `(tactic| simp_arith [$ls,*]) => `(tactic| simp [runF, sSeq, sIf, sAsg, sRet, sRetN, sNext, sDrop, sBrk, sCont, sPar, gName, gTup, gSeq, gSub, eOp1, eOp2, eVar, eC, eBlt, lBlt, lOp1, lOp2, sl3, aOne, aCons, aNil, eTup, lOf, eFrz, eNew, eIf, eB, tB, tNot, tAnd, tOr, tOp2, tChain, eAnd, eOr, eCall, eMth, Res.toS, SRes.seq, SRes.only, Res.bind, iOf, items, iRange1, iRange2, iEnum, enumOf, range1, range2, sFrz, b2, i2, i2c, gtD, ltD, leD, geD, subD, mulD, modD, divD, intD, isN, notN, D.isNon, negD, sizeLine_eq, $ls,*])
theorem b_int {a c : Nat} : ((a : Int) == (c : Int)) = (a == c) := by
  rw [Bool.eq_iff_iff]
  simp only [beq_iff_eq]
  omega
theorem like_self {d : D} {S : Store} (h : D.tiny 60 d = true) (hw : d.wt ≤ 16777216) : f__law_like [d, d] S = .ok (.bl true) S := by
  have e := repr_ok (S := S) h hw (rd_tiny h)
  simp_arith [f__law_like, m__law_like, e, eq_str]
theorem wd_pure (W : Wd) : W.D.pure = true := by
  unfold Wd.D
  simp only [D.pure, D.pureAll, Bool.and_eq_true, Bool.true_and, Bool.and_true]
  refine ⟨pureAll_map fun x _ => rfl, pureAll_map fun x _ => ?_⟩
  unfold Wd.rD
  simp only [D.pure]
  exact pureAll_map fun y _ => rfl
structure IsCat (W : Wd) : Prop where
  nm : W.n ≤ W.m
  ids : ∀ i, i < W.n → W.s i = i ∧ W.t i = i
  rng : ∀ f, f < W.m → W.s f < W.n ∧ W.t f < W.n
  comp : ∀ f g, f < W.m → g < W.m → W.t f = W.s g → ∃ h, h < W.m ∧ W.c f g = (h : Int) ∧ W.s h = W.s f ∧ W.t h = W.t g
  gap : ∀ f g, f < W.m → g < W.m → W.t f ≠ W.s g → W.c f g = -1
  unL : ∀ f, f < W.m → W.c (W.s f) f = f
  unR : ∀ f, f < W.m → W.c f (W.t f) = f
  assoc : ∀ f g h a b : Nat, f < W.m → g < W.m → h < W.m → W.t f = W.s g → W.t g = W.s h → W.c f g = a → W.c g h = b → W.c a h = W.c f b
theorem IsCat.op {W : Wd} (C : IsCat W) : IsCat W.op where
  nm := C.nm
  ids := fun i h => ⟨(C.ids i h).2, (C.ids i h).1⟩
  rng := fun f h => ⟨(C.rng f h).2, (C.rng f h).1⟩
  comp := fun f g hf hg e => by
    obtain ⟨h, h1, h2, h3, h4⟩ := C.comp g f hg hf e.symm
    exact ⟨h, h1, h2, h4, h3⟩
  gap := fun f g hf hg e => C.gap g f hg hf fun z => e z.symm
  unL := fun f h => C.unR f h
  unR := fun f h => C.unL f h
  assoc := fun f g h a b hf hg hh e1 e2 h1 h2 => (C.assoc h g f b a hh hg hf e2.symm e1.symm h2 h1).symm
section
variable {W : Wd} {f : Nat} {S : Store}
theorem pure2 (W : Wd) (d : D) (h : d.pure = true) : D.pureAll [W.D, d] = true := by simp [D.pureAll, wd_pure, h]
theorem call_like {d : D} (h : D.tiny 60 d = true) (hw : d.wt ≤ 16777216) (hp : d.pure = true) : callP f__law_like [d, d] S = .ok (.bl true) S := callP_ok (like_self h hw) (by simp [D.pureAll, hp]) rfl
theorem IsCat.s_lt (C : IsCat W) {f : Nat} (hf : f < W.m) : W.s f < W.m := Nat.lt_of_lt_of_le (C.rng f hf).1 C.nm
theorem IsCat.t_lt (C : IsCat W) {f : Nat} (hf : f < W.m) : W.t f < W.m := Nat.lt_of_lt_of_le (C.rng f hf).2 C.nm
end
end Mi
set_option linter.all false
set_option maxRecDepth 100000
namespace Mi
open PySem L2 L_TE
local macro_rules | `(tactic| simp_arith [$ls,*]) => `(tactic| simp [runF, sSeq, sIf, sAsg, sRet, sRetN, sNext, sDrop, sBrk, sCont, sPar, gName, gTup, gSeq, gSub, eOp1, eOp2, eVar, eC, eBlt, lBlt, lOp1, lOp2, sl3, aOne, aCons, aNil, eTup, lOf, eFrz, eNew, eIf, eB, tB, tNot, tAnd, tOr, tOp2, tChain, eAnd, eOr, eCall, eMth, Res.toS, SRes.seq, SRes.only, Res.bind, iOf, items, iRange1, iRange2, iEnum, enumOf, range1, range2, sFrz, b2, i2, i2c, gtD, ltD, leD, geD, subD, mulD, modD, divD, intD, isN, notN, D.isNon, negD, sizeLine_eq, $ls,*])
/-! ### the world of an order -/
structure Spots (n : Nat) (ss : List (Nat × Nat)) : Prop where
  ids : ∀ i, i < n → ss[i]? = some (i, i)
  nd : ss.Nodup
  rng : ∀ q ∈ ss, q.1 < n ∧ q.2 < n
  tr : ∀ x y z, (x, y) ∈ ss → (y, z) ∈ ss → (x, z) ∈ ss
def ordW (n : Nat) (ss : List (Nat × Nat)) : Wd := ⟨n, ss.length, fun f => (ss.getD f (0, 0)).1, fun f => (ss.getD f (0, 0)).2,
  fun f g => if (ss.getD f (0, 0)).2 = (ss.getD g (0, 0)).1 then (ss.idxOf ((ss.getD f (0, 0)).1, (ss.getD g (0, 0)).2) : Nat) else -1⟩
section
variable {n : Nat} {ss : List (Nat × Nat)} (Z : Spots n ss)
include Z
theorem Spots.nm : n ≤ ss.length := by
  cases n with
  | zero => omega
  | succ k =>
    have := Z.ids k (by omega)
    have := (List.getElem?_eq_some_iff.mp this).1
    omega
theorem Spots.get {i : Nat} (h : i < n) : ss.getD i (0, 0) = (i, i) := by
  rw [List.getD_eq_getElem?_getD, Z.ids i h]
  rfl
omit Z in
theorem getD_mem {f : Nat} (h : f < ss.length) : ss.getD f (0, 0) ∈ ss := by
  rw [List.getD_eq_getElem?_getD, List.getElem?_eq_getElem h]
  exact List.getElem_mem h
omit Z in
theorem getD_idx {q : Nat × Nat} (h : q ∈ ss) : ss.getD (ss.idxOf q) (0, 0) = q := by
  have hl := List.idxOf_lt_length_of_mem h
  rw [List.getD_eq_getElem?_getD, List.getElem?_eq_getElem hl]
  exact List.getElem_idxOf hl
theorem idx_getD {f : Nat} (h : f < ss.length) : ss.idxOf (ss.getD f (0, 0)) = f := by
  rw [List.getD_eq_getElem?_getD, List.getElem?_eq_getElem h]
  exact Z.nd.idxOf_getElem f h
theorem ordW_cat : IsCat (ordW n ss) where
  nm := Z.nm
  ids := fun i h => by
    unfold ordW
    dsimp only
    rw [Z.get h]
    exact ⟨rfl, rfl⟩
  rng := fun f h => Z.rng _ (getD_mem h)
  comp := fun f g hf hg e => by
    have m : ((ss.getD f (0, 0)).1, (ss.getD g (0, 0)).2) ∈ ss := Z.tr _ (ss.getD f (0, 0)).2 _ (getD_mem hf) (by
      have e : (ss.getD f (0, 0)).2 = (ss.getD g (0, 0)).1 := e
      rw [e]; exact getD_mem hg)
    refine ⟨ss.idxOf ((ss.getD f (0, 0)).1, (ss.getD g (0, 0)).2), List.idxOf_lt_length_of_mem m, if_pos e, ?_, ?_⟩
    · have := congrArg Prod.fst (getD_idx m)
      exact this
    · have := congrArg Prod.snd (getD_idx m)
      exact this
  gap := fun f g hf hg e => if_neg e
  unL := fun f hf => by
    have r := (Z.rng _ (getD_mem hf)).1
    unfold ordW
    dsimp only
    rw [Z.get r]
    dsimp only
    rw [if_pos rfl, show ((ss.getD f (0, 0)).1, (ss.getD f (0, 0)).2) = ss.getD f (0, 0) from rfl, idx_getD Z hf]
  unR := fun f hf => by
    have r := (Z.rng _ (getD_mem hf)).2
    unfold ordW
    dsimp only
    rw [Z.get r]
    dsimp only
    rw [if_pos rfl, show ((ss.getD f (0, 0)).1, (ss.getD f (0, 0)).2) = ss.getD f (0, 0) from rfl, idx_getD Z hf]
  assoc := fun f g h a b hf hg hh e1 e2 h1 h2 => by
    have h1 : (if (ss.getD f (0, 0)).2 = (ss.getD g (0, 0)).1 then ((ss.idxOf ((ss.getD f (0, 0)).1, (ss.getD g (0, 0)).2) : Nat) : Int) else -1) = a := h1
    have h2 : (if (ss.getD g (0, 0)).2 = (ss.getD h (0, 0)).1 then ((ss.idxOf ((ss.getD g (0, 0)).1, (ss.getD h (0, 0)).2) : Nat) : Int) else -1) = b := h2
    have e1 : (ss.getD f (0, 0)).2 = (ss.getD g (0, 0)).1 := e1
    have e2 : (ss.getD g (0, 0)).2 = (ss.getD h (0, 0)).1 := e2
    rw [if_pos e1] at h1
    rw [if_pos e2] at h2
    have h1 := Int.ofNat.inj h1
    have h2 := Int.ofNat.inj h2
    have m1 : ((ss.getD f (0, 0)).1, (ss.getD g (0, 0)).2) ∈ ss := Z.tr _ (ss.getD f (0, 0)).2 _ (getD_mem hf) (by rw [e1]; exact getD_mem hg)
    have m2 : ((ss.getD g (0, 0)).1, (ss.getD h (0, 0)).2) ∈ ss := Z.tr _ (ss.getD g (0, 0)).2 _ (getD_mem hg) (by rw [e2]; exact getD_mem hh)
    unfold ordW
    dsimp only
    have ga : ss.getD a (0, 0) = ((ss.getD f (0, 0)).1, (ss.getD g (0, 0)).2) := by rw [← h1, getD_idx m1]
    have gb : ss.getD b (0, 0) = ((ss.getD g (0, 0)).1, (ss.getD h (0, 0)).2) := by rw [← h2, getD_idx m2]
    rw [ga, gb, if_pos e2, if_pos e1]
end
/-! ### sorted pairs -/
def pD (q : Nat × Nat) : D := .tup [.int (q.1 : Nat), .int (q.2 : Nat)]
def unpD : D → Nat × Nat
  | .tup [.int a, .int b] => (a.toNat, b.toNat)
  | _ => (0, 0)
theorem unpD_pD (q : Nat × Nat) : unpD (pD q) = q := by
  unfold pD unpD
  simp
theorem pD_flat (k : Nat) (q : Nat × Nat) : D.flat (k + 2) (pD q) = true := by
  unfold pD
  simp [D.flat, D.flatAll]
theorem pDs_flat (k : Nat) : ∀ ps : List (Nat × Nat), D.flatAll (k + 2) (ps.map pD) = true
  | [] => by simp [D.flatAll]
  | q :: ps => by simp [D.flatAll, pD_flat, pDs_flat k ps]
theorem pDs_flat' (k : Nat) (ps : List (Nat × Nat)) : D.flat (k + 3) (.lst (ps.map pD)) = true := by
  simp only [D.flat]
  exact pDs_flat k ps
theorem alike_pD (p q : Nat × Nat) : PySem.W.alike (pD p).py (pD q).py = true := by
  unfold pD
  simp [D.py, D.pyAll, PySem.W.alike, PySem.W.alikeAll]
theorem sortB_pD (ps : List (Nat × Nat)) : sortB (ps.map pD) = true := by
  unfold sortB
  simp only [Bool.and_eq_true, Bool.or_eq_true]
  refine ⟨⟨pDs_flat 58 ps, ?_⟩, .inl ?_⟩
  · unfold alikeB
    simp only [List.all_eq_true, List.mem_map]
    rintro _ ⟨p, _, rfl⟩ _ ⟨q, _, rfl⟩
    exact alike_pD p q
  · simp only [List.all_eq_true, List.mem_map]
    rintro _ ⟨p, _, rfl⟩
    rfl
theorem sort_pD (ps : List (Nat × Nat)) : ∃ qs : List (Nat × Nat), qs.Perm ps ∧ ∀ S, sortF [.lst (ps.map pD)] S = .ok (qs.map pD) S := by
  have perm : ((ps.map pD).mergeSort leS).Perm (ps.map pD) := List.mergeSort_perm _ _
  refine ⟨((ps.map pD).mergeSort leS).map unpD, ?_, fun S => ?_⟩
  · have := perm.map unpD
    rw [List.map_map] at this
    have e : ps.map (unpD ∘ pD) = ps := by
      rw [show unpD ∘ pD = id from funext unpD_pD, List.map_id]
    rw [e] at this
    exact this
  · have e : (((ps.map pD).mergeSort leS).map unpD).map pD = (ps.map pD).mergeSort leS := by
      rw [List.map_map]
      have : ∀ d ∈ (ps.map pD).mergeSort leS, (pD ∘ unpD) d = d := by
        intro d hd
        obtain ⟨q, _, rfl⟩ := List.mem_map.mp (perm.mem_iff.mp hd)
        show pD (unpD (pD q)) = pD q
        rw [unpD_pD]
      exact (List.map_congr_left this).trans (List.map_id _)
    unfold sortF
    simp [rd, sortB_pD, e, isrt_eq]
/-! ### the index of a pair -/
theorem eqv_pD (p q : Nat × Nat) : PyData.eqv (pD p).py (pD q).py = decide (p = q) := by
  obtain ⟨a, b⟩ := p
  obtain ⟨c, d⟩ := q
  unfold pD
  simp [D.py, D.pyAll, PyData.eqv, PyData.eqvAll]
  rw [Bool.eq_iff_iff]
  simp only [Bool.and_eq_true, beq_iff_eq, decide_eq_true_eq]
  omega
theorem idxAt_pD (q : Nat × Nat) : ∀ (ss : List (Nat × Nat)) (k : Nat), q ∈ ss → idxAt (pD q) (ss.map pD) k = some (k + ss.idxOf q)
  | p :: ss, k, h => by
    rw [List.map_cons]
    unfold idxAt
    rw [eqv_pD, List.idxOf_cons]
    by_cases e : p = q
    · simp [e]
    · have h2 : q ∈ ss := by
        rcases List.mem_cons.mp h with h | h
        · exact absurd h.symm e
        · exact h
      rw [if_neg (by simpa using e), idxAt_pD q ss (k + 1) h2]
      have : (p == q) = false := by simpa using e
      rw [this]
      simp
      omega
theorem ind_pD {q : Nat × Nat} {ss : List (Nat × Nat)} (h : q ∈ ss) (S : Store) : indD (.lst (ss.map pD)) [pD q] S = .ok (.int (ss.idxOf q : Nat)) S := by
  unfold indD
  simp only [rd]
  rw [if_pos (by rw [pDs_flat' 57 ss, pD_flat 58 q]; rfl), idxAt_pD q ss 0 h]
  simp
/-! ### lists at a place -/
section
variable {S : Store} {l : Nat} {xs : List D}
theorem rd_at (g : S[l]? = some (some (.lst xs))) : rd (.loc l) S = some (.lst xs) := by
  unfold rd
  dsimp only
  rw [g]
theorem isL_at (g : S[l]? = some (some (.lst xs))) : isL (.loc l) S = true := by
  unfold isL
  rw [rd_at g]
theorem app_at {v : D} (g : S[l]? = some (some (.lst xs))) (h : xs.length < sizeLine) : appD (.loc l) [v] S = .ok .non (S.set l (some (.lst (xs ++ [v])))) := by
  unfold appD
  dsimp only
  rw [g]
  dsimp only
  rw [if_pos h]
theorem frz_at (g : S[l]? = some (some (.lst xs))) : frz (.loc l) S = .ok (.lst xs) (S.set l none) := by
  unfold frz
  dsimp only
  rw [g]
end
/-! ### the walk of _law_order -/
def idl (n : Nat) : List (Nat × Nat) := (List.range n).map fun x => (x, x)
section
variable {n : Nat} {ss : List (Nat × Nat)} (Z : Spots n ss) (hl : ss.length ≤ 10000)
theorem c1_order {a b c d e f g : Option D} (h : n ≤ 10000) {S : Store} : c1__law_order [some (.int (n : Nat)), a, b, c, d, e, f, g] S = .ok ((idl n).map pD) S := by
  unfold c1__law_order
  have := comp_map (S := S) (S1 := S) (vs := [3]) (g := gName 3) (e := eTup (aCons (eVar 3) (aCons (eVar 3) aNil))) (it := iRange1 (eVar 0)) (ρ := [some (.int (n : Nat)), a, b, c, d, e, f, g]) (xs := List.range n) (fun i : Nat => D.int (i : Nat)) (fun x => pD (x, x)) (walk_n h (by simp_arith [])) (fun i hi => ⟨_, rfl, by simp_arith [wipe]; rfl⟩) (by rw [List.length_range]; exact Nat.le_trans h big)
  rw [this, idl, List.map_map]
  rfl
include Z hl
theorem c2_order {a b c e f : Option D} {q : Nat × Nat} (hq : q ∈ ss) {S : Store} : c2__law_order [a, b, some (.lst (ss.map pD)), some (.int (q.1 : Nat)), c, some (.int (q.2 : Nat)), e, f] S = .ok (ss.map fun r => .int (if q.2 = r.1 then (ss.idxOf (q.1, r.2) : Nat) else -1)) S := by
  unfold c2__law_order
  refine comp_map pD _ (by simp_arith []) (fun r hr => ⟨_, by simp_arith [pD, wipe]; rfl, ?_⟩) (Nat.le_trans hl big)
  by_cases e : q.2 = r.1
  · have m : (q.1, r.2) ∈ ss := Z.tr _ q.2 _ hq (by rw [e]; exact hr)
    have i := ind_pD m S
    unfold pD at i
    dsimp only at i
    have t : isL (.lst (ss.map pD)) S = true := rfl
    simp_arith [e, eq_int, t]
    unfold pD at *
    rw [i]
  · have e2 : ((q.2 : Int) == (r.1 : Int)) = false := by simp; omega
    simp_arith [e, eq_int, e2, negD]
theorem order_ok {ps : List (Nat × Nat)} {S : Store} (hn : n ≤ 10000) (hs : ∃ qs, ss = idl n ++ qs ∧ ∀ S, sortF [.lst (ps.map pD)] S = .ok (qs.map pD) S) : ∃ S', f__law_order [.int (n : Nat), .lst (ps.map pD)] S = .ok (ordW n ss).D S' := by
  obtain ⟨qs, e1, e2⟩ := hs
  have cat : ∀ S, lAdd (.lst ((idl n).map pD)) (.lst (qs.map pD)) S = .ok (ss.map pD) S := by
    intro S
    unfold lAdd
    simp only [rd]
    rw [if_pos (by
      have : ((idl n).map pD).length + (qs.map pD).length = ss.length := by rw [e1]; simp
      rw [this]
      exact Nat.le_trans hl big), e1, List.map_append]
  have len : ∀ k, k ≤ ss.length → k ≤ sizeLine := fun k h => Nat.le_trans h (Nat.le_trans hl big)
  let row : Nat × Nat → D := fun q => .tup (ss.map fun r => .int (if q.2 = r.1 then (ss.idxOf (q.1, r.2) : Nat) else -1))
  obtain ⟨ρ', S', lp, a, b, c, d, rfl, rfl⟩ := loop_inv (body := fun d ρ S => ((gTup [gName 3, gName 5]) d ρ S).only.seq b1__law_order) pD
    (fun k ρ S1 => ∃ a b c d, ρ = [some (.int (n : Nat)), some (.lst (ps.map pD)), some (.lst (ss.map pD)), a, some (.loc S.length), b, c, d] ∧ S1 = S ++ [some (.lst ((ss.take k).map row))]) ss 0 [some (.int (n : Nat)), some (.lst (ps.map pD)), some (.lst (ss.map pD)), none, some (.loc S.length), none, none, none] (S ++ [some (.lst [])])
    ⟨_, _, _, _, rfl, by simp⟩ (by
      rintro j q ρ S1 hj ⟨a, b, c, d, rfl, rfl⟩
      have hjl := (List.getElem?_eq_some_iff.mp hj).1
      have hq : q ∈ ss := List.mem_of_getElem? hj
      refine ⟨_, _, .inl ?_, some (.int (q.1 : Nat)), some (.int (q.2 : Nat)), c, d, rfl, rfl⟩
      have g : (S ++ [some (Ob.lst ((ss.take (0 + j)).map row))])[S.length]? = some (some (.lst ((ss.take (0 + j)).map row))) := by simp
      have t := isL_at g
      have ap : appD (.loc S.length) [row q] (S ++ [some (Ob.lst ((ss.take (0 + j)).map row))]) = .ok .non (S ++ [some (Ob.lst ((ss.take (0 + j + 1)).map row))]) := by
        rw [app_at g (by have := len _ (Nat.le_refl _); simp; omega)]
        rw [List.set_append_right _ _ (Nat.le_refl _)]
        simp [List.take_add_one, hj]
      generalize S ++ [some (Ob.lst ((ss.take (0 + j)).map row))] = T1 at *
      generalize S ++ [some (Ob.lst ((ss.take (0 + j + 1)).map row))] = T2 at *
      dsimp only [row] at ap
      unfold b1__law_order
      simp_arith [pD, c2_order Z hl hq, tupD, rd, t, ap])
  rw [Nat.zero_add, List.take_length] at lp
  have g : (S ++ [some (Ob.lst (ss.map row))])[S.length]? = some (some (.lst (ss.map row))) := by simp
  have fz := frz_at g
  generalize S ++ [some (Ob.lst (ss.map row))] = T1 at *
  have it : l1__law_order [some (.int (n : Nat)), some (.lst (ps.map pD)), some (.lst (ss.map pD)), none, some (.loc S.length), none, none, none] (S ++ [some (.lst [])]) = .next [some (.int (n : Nat)), some (.lst (ps.map pD)), some (.lst (ss.map pD)), a, some (.loc S.length), b, c, d] T1 := by
    rw [← lp]
    unfold l1__law_order sFor
    simp_arith []
  have fin : D.tup [.int (n : Nat), .tup (ss.map pD), .tup (ss.map row)] = (ordW n ss).D := by
    have m1 : ss.map pD = (List.range ss.length).map (ordW n ss).eD := by
      apply List.ext_getElem
      · simp
      · intro i h1 h2
        have h : i < ss.length := by simpa using h1
        simp [Wd.eD, ordW, pD, h]
    have m2 : ss.map row = (List.range ss.length).map (ordW n ss).rD := by
      apply List.ext_getElem
      · simp
      · intro i h1 h2
        have h : i < ss.length := by simpa using h1
        rw [List.getElem_map, List.getElem_map, List.getElem_range]
        dsimp only [row]
        unfold Wd.rD
        congr 1
        apply List.ext_getElem
        · simp [ordW]
        · intro k h3 h4
          have h' : k < ss.length := by simpa using h3
          simp [ordW, h, h']
    rw [m1, m2]
    rfl
  refine ⟨T1.set S.length none, ?_⟩
  rw [← fin]
  simp_arith [f__law_order, m__law_order, c1_order hn, e2, cat, it, fz, tupD, rd]
end
theorem nd_map {α β : Type} {f : α → β} (h : ∀ a b, f a = f b → a = b) {l : List α} (nd : l.Nodup) : (l.map f).Nodup := List.Pairwise.map f (fun a b n e => n (h a b e)) nd
/-- pairs that make an order, none still -/
structure Pre (n : Nat) (ps : List (Nat × Nat)) : Prop where
  nd : ps.Nodup
  rng : ∀ x y, (x, y) ∈ ps → x < n ∧ y < n ∧ x ≠ y
  tr : ∀ x y z, (x, y) ∈ ps → (y, z) ∈ ps → x ≠ z → (x, z) ∈ ps
theorem mem_idl {n : Nat} {q : Nat × Nat} : q ∈ idl n ↔ q.1 < n ∧ q.1 = q.2 := by
  unfold idl
  rw [List.mem_map]
  constructor
  · rintro ⟨x, hx, rfl⟩
    exact ⟨List.mem_range.mp hx, rfl⟩
  · rintro ⟨h, e⟩
    exact ⟨q.1, List.mem_range.mpr h, by rw [Prod.ext_iff]; exact ⟨rfl, e⟩⟩
theorem Pre.spots {n : Nat} {ps qs : List (Nat × Nat)} (h : Pre n ps) (p : qs.Perm ps) : Spots n (idl n ++ qs) where
  ids := fun i hi => by
    rw [List.getElem?_append_left (by unfold idl; simpa using hi)]
    unfold idl
    simp [hi]
  nd := by
    rw [List.nodup_append]
    refine ⟨?_, p.nodup_iff.mpr h.nd, fun a ha b hb e => ?_⟩
    · unfold idl
      exact nd_map (fun a b e => congrArg Prod.fst e) List.nodup_range
    · subst e
      have := (mem_idl.mp ha).2
      obtain ⟨x, y⟩ := a
      exact (h.rng x y (p.mem_iff.mp hb)).2.2 this
  rng := fun q hq => by
    rcases List.mem_append.mp hq with hq | hq
    · obtain ⟨h1, h2⟩ := mem_idl.mp hq
      exact ⟨h1, by omega⟩
    · obtain ⟨x, y⟩ := q
      have := h.rng x y (p.mem_iff.mp hq)
      exact ⟨this.1, this.2.1⟩
  tr := fun x y z h1 h2 => by
    have m : ∀ x y, (x, y) ∈ idl n ++ qs ↔ (x < n ∧ x = y) ∨ (x, y) ∈ ps := fun x y => by
      rw [List.mem_append, mem_idl, p.mem_iff]
    rw [m] at h1 h2 ⊢
    rcases h1 with ⟨h1, rfl⟩ | h1
    · exact h2
    · rcases h2 with ⟨h2, rfl⟩ | h2
      · exact .inr h1
      · by_cases e : x = z
        · exact .inl ⟨(h.rng _ _ h1).1, e⟩
        · exact .inr (h.tr _ _ _ h1 h2 e)
/-- a world that a call gives -/
def Gives (r : Store → Res D) (n m : Nat) : Prop := ∃ W : Wd, IsCat W ∧ W.n = n ∧ W.m = m ∧ ∀ S, r S = .ok W.D S
theorem call_order {n : Nat} {ps : List (Nat × Nat)} (h : Pre n ps) (hn : n + ps.length ≤ 10000) : Gives (callP f__law_order [.int (n : Nat), .lst (ps.map pD)]) n (n + ps.length) := by
  obtain ⟨qs, p, e⟩ := sort_pD ps
  have Z := h.spots p
  have len : (idl n ++ qs).length = n + ps.length := by rw [List.length_append, p.length_eq]; unfold idl; simp
  refine ⟨ordW n (idl n ++ qs), ordW_cat Z, rfl, len, fun S => ?_⟩
  obtain ⟨S', e2⟩ := order_ok Z (by omega) (S := []) (ps := ps) (by omega) ⟨qs, rfl, e⟩
  exact callP_ok e2 (by
    have : D.pureAll (ps.map pD) = true := pureAll_map fun x _ => rfl
    simp [D.pureAll, D.pure, this]) (wd_pure _)
/-! ### chains -/
def cps (n : Nat) : List (Nat × Nat) := (List.range n).flatMap fun y => (List.range y).map fun x => (x, y)
theorem cps_succ (n : Nat) : cps (n + 1) = cps n ++ (List.range n).map fun x => (x, n) := by
  unfold cps
  rw [List.range_succ, List.flatMap_append]
  simp
theorem mem_cps {n x y : Nat} : (x, y) ∈ cps n ↔ x < y ∧ y < n := by
  unfold cps
  simp only [List.mem_flatMap, List.mem_map, List.mem_range, Prod.mk.injEq]
  constructor
  · rintro ⟨b, hb, a, ha, rfl, rfl⟩
    exact ⟨ha, hb⟩
  · rintro ⟨h1, h2⟩
    exact ⟨y, h2, x, h1, rfl, rfl⟩
theorem cps_nd : ∀ n, (cps n).Nodup
  | 0 => by simp [cps]
  | n + 1 => by
    rw [cps_succ, List.nodup_append]
    refine ⟨cps_nd n, ?_, fun a ha b hb e => ?_⟩
    · exact nd_map (fun a b e => congrArg Prod.fst e) List.nodup_range
    · subst e
      obtain ⟨x, _, rfl⟩ := List.mem_map.mp hb
      have := (mem_cps.mp ha).2
      omega
theorem cps_pre (n : Nat) : Pre n (cps n) where
  nd := cps_nd n
  rng := fun x y h => by have := mem_cps.mp h; omega
  tr := fun x y z h1 h2 _ => by
    have h1 := mem_cps.mp h1
    have h2 := mem_cps.mp h2
    exact mem_cps.mpr ⟨by omega, h2.2⟩
theorem cps_len : ∀ n, (cps n).length ≤ n * n
  | 0 => by simp [cps]
  | n + 1 => by
    rw [cps_succ, List.length_append, List.length_map, List.length_range]
    have := cps_len n
    have e : (n + 1) * (n + 1) = n * n + n + n + 1 := by rw [Nat.add_mul, Nat.mul_add]; omega
    omega
theorem c1_chain {n y : Nat} (h : y ≤ 10000) {a b c : Option D} {S : Store} : c1__law_chain [a, b, some (.int (y : Nat)), c] S = .ok (((List.range y).map fun x => (x, y)).map pD) S := by
  unfold c1__law_chain
  rw [List.map_map]
  refine comp_map (fun i : Nat => D.int (i : Nat)) _ (walk_n h (by simp_arith [])) (fun i hi => ⟨_, rfl, by simp_arith [wipe]; rfl⟩) (by rw [List.length_range]; exact Nat.le_trans h big)
theorem chain_ok {n : Nat} (hn : n ≤ 60) : Gives (callP f__law_chain [.int (n : Nat)]) n (n + (cps n).length) := by
  have hl := cps_len n
  have hnn : n * n ≤ 60 * 60 := Nat.mul_le_mul hn hn
  obtain ⟨W, C, e1, e2, e3⟩ := call_order (cps_pre n) (by omega)
  refine ⟨W, C, e1, e2, fun S => callP_ok (S1 := []) ?_ rfl (wd_pure _)⟩
  obtain ⟨ρ', S', lp, rfl, a, b, rfl⟩ := loop_inv (body := fun d ρ S => ((gName 2) d ρ S).only.seq b1__law_chain) (fun i : Nat => D.int (i : Nat))
    (fun k ρ S1 => S1 = [] ∧ ∃ a b, ρ = [some (.int (n : Nat)), some (.lst ((cps k).map pD)), a, b]) (List.range n) 0 [some (.int (n : Nat)), some (.lst []), none, none] [] ⟨rfl, _, _, rfl⟩ (by
      rintro j y ρ S1 hj ⟨rfl, a, b, rfl⟩
      have hjl := (List.getElem?_eq_some_iff.mp hj).1
      rw [List.length_range] at hjl
      have hy : y = j := by simpa [hjl] using hj.symm
      subst hy
      refine ⟨_, _, .inl ?_, rfl, some (.int (y : Nat)), b, rfl⟩
      have hy : y ≤ 10000 := by omega
      have cat : lAdd (.lst ((cps (0 + y)).map pD)) (.lst (((List.range y).map fun x => (x, y)).map pD)) [] = .ok ((cps (0 + y + 1)).map pD) [] := by
        rw [Nat.zero_add, cps_succ, List.map_append]
        unfold lAdd
        simp only [rd]
        rw [if_pos (by
          have h1 := cps_len y
          have h2 : y * y ≤ 60 * 60 := Nat.mul_le_mul (by omega) (by omega)
          simp only [List.length_map, List.length_range]
          have := big
          omega)]
      generalize (cps (0 + y)).map pD = l1 at *
      generalize (cps (0 + y + 1)).map pD = l2 at *
      have c1 := fun a b c => c1_chain (n := n) hy (a := a) (b := b) (c := c) (S := [])
      generalize ((List.range y).map fun x => (x, y)).map pD = l3 at *
      unfold b1__law_chain
      simp_arith [c1, cat])
  rw [List.length_range, Nat.zero_add] at lp
  have it : l1__law_chain [some (.int (n : Nat)), some (.lst []), none, none] [] = .next [some (.int (n : Nat)), some (.lst ((cps n).map pD)), a, b] [] := by
    rw [← lp]
    unfold l1__law_chain sFor
    rw [walk_n (S1 := []) (m := n) (by omega) (by simp_arith [])]
    rfl
  simp_arith [f__law_chain, m__law_chain, it, e3]
/-! ### rings -/
def ringW (k : Nat) : Wd := ⟨1, k, fun _ => 0, fun _ => 0, fun a b => ((a + b) % k : Nat)⟩
theorem ringW_cat {k : Nat} (h : 0 < k) : IsCat (ringW k) where
  nm := h
  ids := fun i hi => by
    have hi : i < 1 := hi
    have : i = 0 := by omega
    subst this
    exact ⟨rfl, rfl⟩
  rng := fun f hf => ⟨Nat.one_pos, Nat.one_pos⟩
  comp := fun f g hf hg e => ⟨(f + g) % k, Nat.mod_lt _ h, rfl, rfl, rfl⟩
  gap := fun f g hf hg e => absurd rfl e
  unL := fun f hf => by
    have hf : f < k := hf
    show (((0 + f) % k : Nat) : Int) = f
    rw [Nat.zero_add, Nat.mod_eq_of_lt hf]
  unR := fun f hf => by
    have hf : f < k := hf
    show (((f + 0) % k : Nat) : Int) = f
    rw [Nat.add_zero, Nat.mod_eq_of_lt hf]
  assoc := fun f g h' a b hf hg hh e1 e2 h1 h2 => by
    have h1 := Int.ofNat.inj h1
    have h2 := Int.ofNat.inj h2
    show (((a + h') % k : Nat) : Int) = (((f + b) % k : Nat) : Int)
    rw [← h1, ← h2]
    congr 1
    rw [Nat.mod_add_mod, Nat.add_mod_mod, Nat.add_assoc]
def rowsR (k : Nat) : List D := (List.range k).map fun a => .lst ((List.range k).map fun b => .int ((a + b) % k : Nat))
theorem loops_ok {k : Nat} (h : k ≤ 10000) : f__law_loops [.lst (rowsR k)] [] = .ok (ringW k).D [] := by
  have b := big
  have c1 : ∀ v, c1__law_loops [some (.lst (rowsR k)), v] [] = .ok ((List.range k).map fun a => .tup [.int 0, .int 0]) [] := by
    intro v
    unfold c1__law_loops
    refine comp_map (fun a : Nat => .lst ((List.range k).map fun b => .int ((a + b) % k : Nat))) (fun _ => .tup [.int 0, .int 0]) (by simp_arith [rowsR]) (fun i hi => ⟨_, rfl, by simp_arith [wipe]⟩) (by rw [List.length_range]; exact Nat.le_trans h big)
  have c2 : ∀ v, c2__law_loops [some (.lst (rowsR k)), v] [] = .ok ((List.range k).map fun a => .tup ((List.range k).map fun b => .int ((a + b) % k : Nat))) [] := by
    intro v
    unfold c2__law_loops
    refine comp_map (fun a : Nat => .lst ((List.range k).map fun b => .int ((a + b) % k : Nat))) _ (by simp_arith [rowsR]) (fun i hi => ⟨_, rfl, by simp_arith [wipe, tupD, rd]⟩) (by rw [List.length_range]; exact Nat.le_trans h big)
  simp_arith [f__law_loops, m__law_loops, c1, c2, tupD, rd]
  rfl
theorem ring_ok {k : Nat} (h0 : 0 < k) (h : k ≤ 10000) : Gives (callP f__law_ring [.int (k : Nat)]) 1 k := by
  refine ⟨ringW k, ringW_cat h0, rfl, rfl, fun S => callP_ok (S1 := []) ?_ rfl (wd_pure _)⟩
  have c1 : ∀ a v, a < k → c1__law_ring [some (.int (k : Nat)), v, some (.int (a : Nat))] [] = .ok ((List.range k).map fun b => .int ((a + b) % k : Nat)) [] := by
    intro a v ha
    unfold c1__law_ring
    refine comp_map (fun b : Nat => .int (b : Nat)) _ (walk_n h (by simp_arith [])) (fun b hb => ⟨_, rfl, ?_⟩) (by rw [List.length_range]; exact Nat.le_trans h big)
    have k0 : (0 : Int) < (k : Int) := by omega
    simp_arith [wipe, add_int, intD, modD, i2c, k0]
    omega
  have c2 : ∀ v w, c2__law_ring [some (.int (k : Nat)), v, w] [] = .ok (rowsR k) [] := by
    intro v w
    unfold c2__law_ring
    refine comp_map (fun a : Nat => .int (a : Nat)) _ (walk_n h (by simp_arith [])) (fun a ha => ⟨_, rfl, ?_⟩) (by rw [List.length_range]; exact Nat.le_trans h big)
    simp_arith [wipe, c1 a _ (List.mem_range.mp ha)]
  have cl : ∀ S, callP f__law_loops [.lst (rowsR k)] S = .ok (ringW k).D S := fun S => callP_ok (loops_ok h) (by
    have : D.pureAll (rowsR k) = true := pureAll_map fun x _ => pureAll_map fun y _ => rfl
    simp [D.pureAll, D.pure, this]) (wd_pure _)
  simp_arith [f__law_ring, m__law_ring, c2, cl]
end Mi
set_option linter.all false
set_option maxRecDepth 100000
namespace Mi
open PySem L2 L_TE
/-! ### dicts whose keys are encoded things -/
/-- b: the keys are tuples -/
structure KE {α : Type} (enc : α → D) (b : Bool) : Prop where
  inj : ∀ a c, (enc a).key = (enc c).key → a = c
  tup : b = true → ∀ a, (∃ l, enc a = .tup l) ∧ (enc a).key.isSome = true
  sim : b = false → ∀ a, ∃ k, toKey (enc a) = some k ∧ (enc a).key = some (nk k)
section
variable {α : Type} [DecidableEq α] {enc : α → D} {b : Bool} (E : KE enc b) {val : α → D}
def dO {α : Type} (b : Bool) (enc val : α → D) (ks : List α) : Ob := .dct (b && !ks.isEmpty) (ks.map enc) (ks.map val)
def dD {α : Type} (b : Bool) (enc val : α → D) (ks : List α) : D := .dct (b && !ks.isEmpty) (ks.map enc) (ks.map val)
include E
theorem KE.some (a : α) : ∃ k, (enc a).key = some k := by
  cases b with
  | true => exact Option.isSome_iff_exists.mp (E.tup rfl a).2
  | false =>
    obtain ⟨k, _, h⟩ := E.sim rfl a
    exact ⟨_, h⟩
theorem KE.keyIs {a c : α} {k : NestedKey} (h : (enc c).key = .some k) : D.keyIs k (enc a) = decide (a = c) := by
  unfold D.keyIs
  rw [← h]
  by_cases e : a = c
  · simp [e]
  · have : ¬ (enc a).key = (enc c).key := fun z => e (E.inj a c z)
    simp [e, this]
theorem KE.get {c : α} {k : NestedKey} (h : (enc c).key = .some k) (ks : List α) : dGet (ks.map enc) (ks.map val) k = if c ∈ ks then .some (val c) else none := by
  induction ks with
  | nil => simp [dGet]
  | cons a ks ih =>
    rw [List.map_cons, List.map_cons]
    unfold dGet
    rw [E.keyIs h, ih]
    by_cases e : a = c
    · subst e; simp
    · have e2 : ¬ c = a := fun z => e z.symm
      simp [e, e2]
theorem KE.look {x : D} {S : Store} {ks : List α} (h : rd x S = .some (dD b enc val ks)) (hn : b = true → ks ≠ []) (c : α) : dLook x (enc c) S = .some (if c ∈ ks then .some (val c) else none) := by
  unfold dLook
  rw [h]
  unfold dD
  cases b with
  | false =>
    obtain ⟨k, h1, h2⟩ := E.sim rfl c
    simp only [Bool.false_and, h1, Option.map_some, E.get h2]
  | true =>
    obtain ⟨⟨l, e⟩, _⟩ := E.tup rfl c
    obtain ⟨k, hk⟩ := E.some c
    have ne : ks.isEmpty = false := by simpa using hn rfl
    have g := E.get (val := val) hk ks
    rw [e] at hk ⊢
    simp only [ne, Bool.not_false, Bool.and_true, hk, Option.map_some, g]
theorem KE.idx {x : D} {S : Store} {ks : List α} (h : rd x S = .some (dD b enc val ks)) {c : α} (hc : c ∈ ks) : dIdx x (enc c) S = .ok (val c) S := by
  unfold dIdx
  rw [E.look h (fun _ z => by rw [z] at hc; cases hc) c, if_pos hc]
theorem KE.nin {x : D} {S : Store} {ks : List α} (h : rd x S = .some (dD b enc val ks)) (hn : b = true → ks ≠ []) (c : α) : dNinB (enc c) x S = .ok (decide (c ∉ ks)) S := by
  unfold dNinB
  rw [E.look h hn c]
  by_cases e : c ∈ ks <;> simp [e]
theorem KE.put {l : Nat} {S : Store} {ks : List α} (h : S[l]? = .some (.some (dO b enc val ks))) {c : α} (hc : c ∉ ks) (hl : ks.length < sizeLine) : putD (.loc l) (enc c) (val c) S = .ok () (S.set l (.some (dO b enc val (ks ++ [c])))) := by
  have e2 : (ks ++ [c]).isEmpty = false := by simp
  unfold putD
  dsimp only
  rw [h]
  unfold dO
  dsimp only
  rw [if_pos (by simpa using hl), e2, List.map_append, List.map_append]
  cases b with
  | false =>
    obtain ⟨k, h1, h2⟩ := E.sim rfl c
    simp [dPutO, h1, E.get h2, hc]
  | true =>
    obtain ⟨⟨t, e⟩, _⟩ := E.tup rfl c
    obtain ⟨k, hk⟩ := E.some c
    have g := E.get (val := val) hk ks
    rw [if_neg hc] at g
    have tk : toKey (.tup t) = none := rfl
    rw [e] at hk
    cases ks with
    | nil => simp [dPutO, tk, hk, e]
    | cons a ks =>
      simp only [List.map_cons] at g
      simp [dPutO, hk, e, g, tk]
end
/-- whole numbers as keys -/
theorem ke_nat : KE (fun i : Nat => D.int (i : Nat)) false where
  inj := fun a c h => by
    simp [D.key, D.keyN] at h
    omega
  tup := fun h => by cases h
  sim := fun _ a => ⟨.inl (a : Nat), rfl, rfl⟩
/-! ### a category by its things and arrows, then numbered -/
section
variable {T A : Type} [DecidableEq T] [DecidableEq A]
structure AC (ts : List T) (as : List A) (src dst : A → T) (still : T → A) (cf : A → A → A) : Prop where
  tnd : ts.Nodup
  nd : as.Nodup
  st : ∀ t ∈ ts, still t ∈ as ∧ src (still t) = t ∧ dst (still t) = t
  en : ∀ a ∈ as, src a ∈ ts ∧ dst a ∈ ts
  cl : ∀ a ∈ as, ∀ b ∈ as, dst a = src b → cf a b ∈ as ∧ src (cf a b) = src a ∧ dst (cf a b) = dst b
  uL : ∀ a ∈ as, cf (still (src a)) a = a
  uR : ∀ a ∈ as, cf a (still (dst a)) = a
  asc : ∀ a ∈ as, ∀ b ∈ as, ∀ c ∈ as, dst a = src b → dst b = src c → cf (cf a b) c = cf a (cf b c)
/-- otherwise listed -/
theorem AC.perm {ts ts' : List T} {as as' : List A} {src dst : A → T} {still : T → A} {cf : A → A → A} (Z : AC ts as src dst still cf) (h1 : ts'.Perm ts) (h2 : as'.Perm as) : AC ts' as' src dst still cf where
  tnd := h1.nodup_iff.mpr Z.tnd
  nd := h2.nodup_iff.mpr Z.nd
  st := fun t h => by rw [h2.mem_iff]; exact Z.st t (h1.mem_iff.mp h)
  en := fun a h => by rw [h1.mem_iff, h1.mem_iff]; exact Z.en a (h2.mem_iff.mp h)
  cl := fun a ha b hb e => by rw [h2.mem_iff]; exact Z.cl a (h2.mem_iff.mp ha) b (h2.mem_iff.mp hb) e
  uL := fun a h => Z.uL a (h2.mem_iff.mp h)
  uR := fun a h => Z.uR a (h2.mem_iff.mp h)
  asc := fun a ha b hb c hc => Z.asc a (h2.mem_iff.mp ha) b (h2.mem_iff.mp hb) c (h2.mem_iff.mp hc)
def namW (ts : List T) (as : List A) (src dst : A → T) (cf : A → A → A) : Wd where
  n := ts.length
  m := as.length
  s := fun f => match as[f]? with
    | some a => ts.idxOf (src a)
    | none => 0
  t := fun f => match as[f]? with
    | some a => ts.idxOf (dst a)
    | none => 0
  c := fun f g => match as[f]?, as[g]? with
    | some a, some b => if dst a = src b then (as.idxOf (cf a b) : Nat) else -1
    | _, _ => -1
variable {ts : List T} {as : List A} {src dst : A → T} {still : T → A} {cf : A → A → A} (Z : AC ts as src dst still cf) (H : ∀ (i : Nat) (t : T), ts[i]? = some t → as[i]? = some (still t))
theorem get_idx {l : List A} {a : A} (h : a ∈ l) : l[l.idxOf a]? = some a := by
  have hl := List.idxOf_lt_length_of_mem h
  rw [List.getElem?_eq_getElem hl, List.getElem_idxOf hl]
theorem idx_get {l : List A} (nd : l.Nodup) {a : A} {i : Nat} (h : l[i]? = some a) : l.idxOf a = i := by
  obtain ⟨hl, e⟩ := List.getElem?_eq_some_iff.mp h
  rw [← e]
  exact nd.idxOf_getElem i hl
theorem idx_inj {l : List A} {a b : A} (ha : a ∈ l) (hb : b ∈ l) (e : l.idxOf a = l.idxOf b) : a = b := by
  have h1 := get_idx ha
  rw [e, get_idx hb] at h1
  exact (Option.some.inj h1).symm
theorem namW_s {f : Nat} {a : A} (h : as[f]? = some a) : (namW ts as src dst cf).s f = ts.idxOf (src a) := by simp [namW, h]
theorem namW_t {f : Nat} {a : A} (h : as[f]? = some a) : (namW ts as src dst cf).t f = ts.idxOf (dst a) := by simp [namW, h]
theorem namW_c {f g : Nat} {a b : A} (h : as[f]? = some a) (h2 : as[g]? = some b) : (namW ts as src dst cf).c f g = if dst a = src b then ((as.idxOf (cf a b) : Nat) : Int) else -1 := by simp [namW, h, h2]
theorem has {f : Nat} (h : f < as.length) : ∃ a, as[f]? = some a ∧ a ∈ as := ⟨as[f], List.getElem?_eq_getElem h, List.getElem_mem h⟩
include Z H
theorem stillAt {t : T} (h : t ∈ ts) : as[ts.idxOf t]? = some (still t) := H _ _ (get_idx h)
theorem namW_cat : IsCat (namW ts as src dst cf) where
  nm := by
    show ts.length ≤ as.length
    cases e : ts.length with
    | zero => omega
    | succ k =>
      obtain ⟨t, ht⟩ : ∃ t, ts[k]? = some t := ⟨ts[k]'(by omega), List.getElem?_eq_getElem _⟩
      have := (List.getElem?_eq_some_iff.mp (H k t ht)).1
      omega
  ids := fun i hi => by
    obtain ⟨t, ht, hm⟩ := has (as := ts) hi
    have ha := H i t ht
    obtain ⟨_, h2, h3⟩ := Z.st t hm
    rw [namW_s ha, namW_t ha, h2, h3]
    exact ⟨idx_get Z.tnd ht, idx_get Z.tnd ht⟩
  rng := fun f hf => by
    obtain ⟨a, ha, hm⟩ := has (as := as) hf
    rw [namW_s ha, namW_t ha]
    exact ⟨List.idxOf_lt_length_of_mem (Z.en a hm).1, List.idxOf_lt_length_of_mem (Z.en a hm).2⟩
  comp := fun f g hf hg e => by
    obtain ⟨a, ha, hm⟩ := has (as := as) hf
    obtain ⟨b, hb, hm2⟩ := has (as := as) hg
    rw [namW_t ha, namW_s hb] at e
    have e := idx_inj (Z.en a hm).2 (Z.en b hm2).1 e
    obtain ⟨c1, c2, c3⟩ := Z.cl a hm b hm2 e
    have hc := get_idx c1
    refine ⟨as.idxOf (cf a b), List.idxOf_lt_length_of_mem c1, by rw [namW_c ha hb, if_pos e], ?_, ?_⟩
    · rw [namW_s hc, namW_s ha, c2]
    · rw [namW_t hc, namW_t hb, c3]
  gap := fun f g hf hg e => by
    obtain ⟨a, ha, hm⟩ := has (as := as) hf
    obtain ⟨b, hb, hm2⟩ := has (as := as) hg
    rw [namW_t ha, namW_s hb] at e
    rw [namW_c ha hb, if_neg fun z => e (by rw [z])]
  unL := fun f hf => by
    obtain ⟨a, ha, hm⟩ := has (as := as) hf
    obtain ⟨_, _, h3⟩ := Z.st _ (Z.en a hm).1
    rw [namW_s ha, namW_c (stillAt Z H (Z.en a hm).1) ha, if_pos h3, Z.uL a hm, idx_get Z.nd ha]
  unR := fun f hf => by
    obtain ⟨a, ha, hm⟩ := has (as := as) hf
    obtain ⟨_, h2, _⟩ := Z.st _ (Z.en a hm).2
    rw [namW_t ha, namW_c ha (stillAt Z H (Z.en a hm).2), if_pos h2.symm, Z.uR a hm, idx_get Z.nd ha]
  assoc := fun f g h p q hf hg hh e1 e2 h1 h2 => by
    obtain ⟨a, ha, hm⟩ := has (as := as) hf
    obtain ⟨b, hb, hm2⟩ := has (as := as) hg
    obtain ⟨c, hc, hm3⟩ := has (as := as) hh
    rw [namW_t ha, namW_s hb] at e1
    rw [namW_t hb, namW_s hc] at e2
    have e1 := idx_inj (Z.en a hm).2 (Z.en b hm2).1 e1
    have e2 := idx_inj (Z.en b hm2).2 (Z.en c hm3).1 e2
    rw [namW_c ha hb, if_pos e1] at h1
    rw [namW_c hb hc, if_pos e2] at h2
    have h1 := Int.ofNat.inj h1
    have h2 := Int.ofNat.inj h2
    obtain ⟨m1, s1, t1⟩ := Z.cl a hm b hm2 e1
    obtain ⟨m2, s2, t2⟩ := Z.cl b hm2 c hm3 e2
    have g1 := get_idx m1
    have g2 := get_idx m2
    rw [h1] at g1
    rw [h2] at g2
    rw [namW_c g1 hc, namW_c ha g2, if_pos (by rw [t1, e2]), if_pos (by rw [s2, e1]), Z.asc a hm b hm2 c hm3 e1 e2]
end
/-! ### closing pairs under following -/
abbrev Ps := List (Nat × Nat)
def addX (n z : Nat) (R : Ps) (x : Nat) : Ps := R ++ ((List.range n).filter fun y => !(x == y) && (decide ((x, z) ∈ R) && (decide ((z, y) ∈ R) && !decide ((x, y) ∈ R)))).map fun y => (x, y)
def addZ (n : Nat) (R : Ps) (z : Nat) : Ps := (List.range n).foldl (addX n z) R
structure Fit (n : Nat) (R : Ps) : Prop where
  lt : ∀ x y, (x, y) ∈ R → x < n ∧ y < n ∧ x ≠ y
theorem mem_addX {n z x0 : Nat} {R : Ps} {x y : Nat} : (x, y) ∈ addX n z R x0 ↔ (x, y) ∈ R ∨ (x = x0 ∧ y < n ∧ x ≠ y ∧ (x, z) ∈ R ∧ (z, y) ∈ R) := by
  unfold addX
  simp only [List.mem_append, List.mem_map, List.mem_filter, List.mem_range, Bool.and_eq_true, Bool.not_eq_true', beq_eq_false_iff_ne, decide_eq_true_eq, decide_eq_false_iff_not, Prod.mk.injEq]
  constructor
  · rintro (h | ⟨b, ⟨h1, h2, h3, h4, h5⟩, rfl, rfl⟩)
    · exact .inl h
    · exact .inr ⟨rfl, h1, h2, h3, h4⟩
  · rintro (h | ⟨rfl, h1, h2, h3, h4⟩)
    · exact .inl h
    · by_cases e : (x, y) ∈ R
      · exact .inl e
      · exact .inr ⟨y, ⟨h1, h2, h3, h4, e⟩, rfl, rfl⟩
theorem Fit.addX {n z x0 : Nat} {R : Ps} (F : Fit n R) : Fit n (addX n z R x0) where
  lt := fun x y h => by
    rcases mem_addX.mp h with h | ⟨rfl, h1, h2, h3, h4⟩
    · exact F.lt x y h
    · exact ⟨(F.lt _ _ h3).1, h1, h2⟩
theorem mem_foldX {n z : Nat} : ∀ (xs : List Nat) {R : Ps}, Fit n R → Fit n (xs.foldl (Mi.addX n z) R) ∧ ∀ x y, (x, y) ∈ xs.foldl (Mi.addX n z) R ↔ (x, y) ∈ R ∨ (x ∈ xs ∧ y < n ∧ x ≠ y ∧ (x, z) ∈ R ∧ (z, y) ∈ R)
  | [], R, F => ⟨F, fun x y => by simp⟩
  | x0 :: xs, R, F => by
    obtain ⟨h1, h2⟩ := mem_foldX xs (z := z) (F.addX (z := z) (x0 := x0))
    refine ⟨h1, fun x y => ?_⟩
    have nz : (z, z) ∉ R := fun h => (F.lt _ _ h).2.2 rfl
    have a1 : ∀ x, (x, z) ∈ Mi.addX n z R x0 ↔ (x, z) ∈ R := fun x => by
      rw [mem_addX]
      exact ⟨fun h => h.elim id fun h => absurd h.2.2.2.2 nz, .inl⟩
    have a2 : ∀ y, (z, y) ∈ Mi.addX n z R x0 ↔ (z, y) ∈ R := fun y => by
      rw [mem_addX]
      exact ⟨fun h => h.elim id fun h => absurd h.2.2.2.1 nz, .inl⟩
    rw [List.foldl_cons, h2, a1, a2, mem_addX, List.mem_cons]
    constructor
    · rintro ((h | ⟨rfl, h⟩) | ⟨h, h'⟩)
      · exact .inl h
      · exact .inr ⟨.inl rfl, h⟩
      · exact .inr ⟨.inr h, h'⟩
    · rintro (h | ⟨rfl | h, h'⟩)
      · exact .inl (.inl h)
      · exact .inl (.inr ⟨rfl, h'⟩)
      · exact .inr ⟨h, h'⟩
theorem mem_addZ {n z : Nat} {R : Ps} (F : Fit n R) {x y : Nat} : (x, y) ∈ addZ n R z ↔ (x, y) ∈ R ∨ (x ≠ y ∧ (x, z) ∈ R ∧ (z, y) ∈ R) := by
  unfold addZ
  rw [(mem_foldX _ F).2]
  constructor
  · rintro (h | ⟨h1, h2, h3, h4⟩)
    · exact .inl h
    · exact .inr ⟨h3, h4⟩
  · rintro (h | ⟨h3, h4, h5⟩)
    · exact .inl h
    · exact .inr ⟨List.mem_range.mpr (F.lt _ _ h4).1, (F.lt _ _ h5).2.1, h3, h4, h5⟩
theorem Fit.addZ {n z : Nat} {R : Ps} (F : Fit n R) : Fit n (addZ n R z) := (mem_foldX _ F).1
/-- closed through those under k -/
def Thru (k : Nat) (R : Ps) : Prop := ∀ x y w, w < k → (x, w) ∈ R → (w, y) ∈ R → x ≠ y → (x, y) ∈ R
theorem Thru.step {n k : Nat} {R : Ps} (F : Fit n R) (h : Thru k R) : Thru (k + 1) (addZ n R k) := by
  intro x y w hw h1 h2 ne
  have nz : (k, k) ∉ R := fun h => (F.lt _ _ h).2.2 rfl
  rw [mem_addZ F] at h1 h2 ⊢
  by_cases e : w = k
  · subst e
    have h1 : (x, w) ∈ R := h1.elim id fun z => absurd z.2.2 nz
    have h2 : (w, y) ∈ R := h2.elim id fun z => absurd z.2.1 nz
    exact .inr ⟨ne, h1, h2⟩
  · have hw : w < k := by omega
    rcases h1 with h1 | ⟨h1, h3, h4⟩ <;> rcases h2 with h2 | ⟨h2, h5, h6⟩
    · exact .inl (h x y w hw h1 h2 ne)
    · by_cases e : x = k
      · subst e; exact .inl h6
      · exact .inr ⟨ne, h x k w hw h1 h5 e, h6⟩
    · by_cases e : k = y
      · subst e; exact .inl h3
      · exact .inr ⟨ne, h3, h k y w hw h4 h2 e⟩
    · exact .inr ⟨ne, h3, h6⟩
theorem thru_all {n : Nat} {R : Ps} (F : Fit n R) : ∀ k, Thru k ((List.range k).foldl (addZ n) R) ∧ Fit n ((List.range k).foldl (addZ n) R)
  | 0 => ⟨fun x y w hw => by omega, F⟩
  | k + 1 => by
    obtain ⟨h1, h2⟩ := thru_all F k
    rw [List.range_succ, List.foldl_append]
    exact ⟨Thru.step h2 h1, h2.addZ⟩
/-- the set of what is closed is an order -/
theorem closed_pre {n : Nat} {R ps : Ps} (F : Fit n R) (nd : ps.Nodup) (h : ∀ q, q ∈ ps ↔ q ∈ (List.range n).foldl (addZ n) R) : Pre n ps where
  nd := nd
  rng := fun x y hq => (thru_all F n).2.lt x y ((h _).mp hq)
  tr := fun x y z h1 h2 ne => (h _).mpr ((thru_all F n).1 x z y ((thru_all F n).2.lt _ _ ((h _).mp h1)).2.1 ((h _).mp h1) ((h _).mp h2) ne)
/-! ### draws behind a call -/
def Ok (S : Store) : Prop := S.all (obUnder S.length) = true
theorem under_ints (n : Nat) : ∀ cs : List Int, D.underAll n (cs.map D.int) = true
  | [] => rfl
  | c :: cs => by simp [D.underAll, D.under, under_ints n cs]
theorem under_dr (n : Nat) (a s p : Int) (cs : List Int) : obUnder n (some (drOb a s cs p)) = true := by
  unfold drOb obUnder
  simp [D.underAll, D.under, under_ints]
/-- a store where only the place l may have changed -/
structure Nx (S S' : Store) (l : Nat) : Prop where
  len : S'.length = S.length
  oth : ∀ j, j ≠ l → S'[j]? = S[j]?
theorem Nx.refl (S : Store) (l : Nat) : Nx S S l := ⟨rfl, fun _ _ => rfl⟩
theorem Nx.trans {S S1 S2 : Store} {l : Nat} (h : Nx S S1 l) (h' : Nx S1 S2 l) : Nx S S2 l := ⟨h'.len.trans h.len, fun j hj => (h'.oth j hj).trans (h.oth j hj)⟩
/-- k draws left, at l, in a whole store -/
structure Dw (k : Nat) (l : Nat) (S : Store) : Prop where
  dr : Dr k S l
  ok : Ok S
theorem Dr.less {j k l : Nat} {S : Store} (h : Dr k S l) (hj : j ≤ k) : Dr j S l := by
  obtain ⟨a, s, cs, p, e, h0, h1, hc⟩ := h.ex
  exact ⟨⟨a, s, cs, p, e, h0, by omega, hc⟩⟩
theorem Dw.less {j k l : Nat} {S : Store} (h : Dw k l S) (hj : j ≤ k) : Dw j l S := ⟨h.dr.less hj, h.ok⟩
theorem draw_call {k l : Nat} {S : Store} {b : Int} (h : Dw (k + 1) l S) (hb : 0 < b) (hb2 : b < 1073741824) : ∃ (r : Nat) (S' : Store), callS f__law_draw [.loc l, .int b] S = .ok (.int (r : Nat)) S' ∧ (r : Int) < b ∧ Dw k l S' ∧ Nx S S' l := by
  obtain ⟨r, S', e, h0, h1, h2, h3, h4⟩ := draw_ok h.dr hb hb2
  have ok : Ok S' := by
    unfold Ok
    rw [List.all_eq_true]
    intro o ho
    obtain ⟨j, hj, rfl⟩ := List.getElem_of_mem ho
    by_cases ej : j = l
    · obtain ⟨a, s, cs, p, e2, _⟩ := h2.ex
      subst ej
      rw [List.getElem?_eq_getElem hj] at e2
      rw [Option.some.inj e2]
      exact under_dr _ _ _ _ _
    · have e3 := h4 j ej
      rw [List.getElem?_eq_getElem hj] at e3
      have m : S'[j] ∈ S := List.mem_of_getElem? e3.symm
      rw [h3]
      exact List.all_eq_true.mp h.ok _ m
  refine ⟨r.toNat, S', ?_, by omega, ⟨h2, ok⟩, ⟨h3, h4⟩⟩
  unfold callS
  rw [e]
  dsimp only
  have tk : S'.take S.length = S' := by rw [← h3, List.take_length]
  rw [tk, show ((r.toNat : Nat) : Int) = r by omega]
  have ok2 : S'.all (obUnder S.length) = true := by rw [← h3]; exact ok
  simp [D.under, ok2]
/-- a comprehension that draws: what it keeps is not said -/
theorem lc_dr {α : Type} {vs : List Nat} {g : GM} {t : TM} {e : EM} {ρ : Env} (enc : α → D) (val : α → D) (I : Nat → Store → Prop) : ∀ (xs : List α) (acc : List D) (S : Store), I xs.length S →
    (∀ x ∈ xs, ∀ n S, I (n + 1) S → ∃ ρ1, g (enc x) (wipe ρ vs) S = .next ρ1 S ∧ ∃ b S', t ρ1 S = .ok b S' ∧ I n S' ∧ (b = true → e ρ1 S' = .ok (val x) S')) → acc.length + xs.length ≤ sizeLine →
    ∃ (zs : List α) (S' : Store), zs.Sublist xs ∧ lcGo vs g t e ρ (xs.map enc) acc S = .ok (acc ++ zs.map val) S' ∧ I 0 S'
  | [], acc, S, hI, _, _ => ⟨[], S, .slnil, by simp [lcGo], hI⟩
  | x :: xs, acc, S, hI, h, hl => by
    obtain ⟨ρ1, h1, b, S1, h2, h3, h4⟩ := h x List.mem_cons_self xs.length S hI
    rw [List.map_cons]
    unfold lcGo
    rw [h1]
    dsimp only
    rw [h2]
    cases b with
    | true =>
      dsimp only
      rw [h4 rfl]
      dsimp only
      rw [if_pos (by simp at hl; omega)]
      obtain ⟨zs, S', z1, z2, z3⟩ := lc_dr enc val I xs (acc ++ [val x]) S1 h3 (fun y hy => h y (List.mem_cons_of_mem _ hy)) (by simp at hl ⊢; omega)
      exact ⟨x :: zs, S', z1.cons_cons x, by rw [z2]; simp, z3⟩
    | false =>
      dsimp only
      obtain ⟨zs, S', z1, z2, z3⟩ := lc_dr enc val I xs acc S1 h3 (fun y hy => h y (List.mem_cons_of_mem _ hy)) (by simp at hl ⊢; omega)
      exact ⟨zs, S', z1.cons x, z2, z3⟩
end Mi
set_option linter.all false
set_option maxRecDepth 100000
namespace Mi
open PySem L2 L_TE
local macro_rules | `(tactic| simp_arith [$ls,*]) => `(tactic| simp [runF, sSeq, sIf, sAsg, sRet, sRetN, sNext, sDrop, sBrk, sCont, sPar, gName, gTup, gSeq, gSub, eOp1, eOp2, eVar, eC, eBlt, lBlt, lOp1, lOp2, sl3, aOne, aCons, aNil, eTup, lOf, eFrz, eNew, eIf, eB, tB, tNot, tAnd, tOr, tOp2, tChain, eAnd, eOr, eCall, eMth, Res.toS, SRes.seq, SRes.only, Res.bind, iOf, items, iRange1, iRange2, iEnum, enumOf, range1, range2, sFrz, b2, i2, i2c, gtD, ltD, leD, geD, subD, mulD, modD, divD, intD, isN, notN, D.isNon, negD, sizeLine_eq, $ls,*])
/-! ### the walk of _law_drawn_order -/
theorem c1_dorder {k l y : Nat} {S : Store} (h : Dw (k + y) l S) (hy : y ≤ 100) {a b c v w : Option D} :
    ∃ (zs : List Nat) (S' : Store), zs.Sublist (List.range y) ∧ c1__law_drawn_order [some (.loc l), a, b, c, some (.int (y : Nat)), v, w] S = .ok ((zs.map fun x => (x, y)).map pD) S' ∧ Dw k l S' ∧ Nx S S' l := by
  obtain ⟨zs, S', h1, h2, h3, h4⟩ := lc_dr (vs := [5]) (g := gName 5) (t := tOp2 eqD (eCall callS 2 f__law_draw (aCons (eVar 0) (aCons (eC (.int 2)) aNil))) (eC (.int 0))) (e := eTup (aCons (eVar 5) (aCons (eVar 4) aNil)))
    (ρ := [some (.loc l), a, b, c, some (.int (y : Nat)), v, w]) (fun x : Nat => D.int (x : Nat)) (fun x => pD (x, y)) (fun n T => Dw (k + n) l T ∧ Nx S T l) (List.range y) [] S ⟨by rw [List.length_range]; exact h, Nx.refl _ _⟩ (by
      rintro x hx n T ⟨d, nx⟩
      obtain ⟨r, T', e, hr, d', nx'⟩ := draw_call (b := 2) d (by decide) (by decide)
      refine ⟨_, rfl, ((r : Int) == 0), T', ?_, ⟨d', nx.trans nx'⟩, fun _ => by simp_arith [wipe]; rfl⟩
      simp_arith [wipe, e, eq_int]) (by
      have := big
      simp
      omega)
  refine ⟨zs, S', h1, ?_, h3, h4⟩
  unfold c1__law_drawn_order lComp
  rw [walk_n (S1 := S) (m := y) (by omega) (by simp_arith [])]
  rw [Res.bind_ok, h2, List.map_map]
  rfl
theorem fit_more {n y : Nat} {R : Ps} {zs : List Nat} (F : Fit n R) (hy : y < n) (h : zs.Sublist (List.range y)) : Fit n (R ++ zs.map fun x => (x, y)) where
  lt := fun a b hq => by
    rcases List.mem_append.mp hq with hq | hq
    · exact F.lt a b hq
    · obtain ⟨x, hx, e⟩ := List.mem_map.mp hq
      have := List.mem_range.mp (h.subset hx)
      cases e
      omega
theorem l1_dorder {k l n : Nat} {S : Store} (hn : n ≤ 10) (h : Dw (k + n * n) l S) {a v w x : Option D} :
    ∃ (R : Ps) (S' : Store) (y' : Option D), Fit n R ∧ R.length ≤ n * n ∧ l1__law_drawn_order [some (.loc l), a, some (.int (n : Nat)), some (.lst []), x, v, w] S = .next [some (.loc l), a, some (.int (n : Nat)), some (.lst (R.map pD)), y', v, w] S' ∧ Dw k l S' ∧ Nx S S' l := by
  have hb := big
  obtain ⟨ρ', S', lp, R, y', rfl, F, hR, d, nx⟩ := loop_inv (body := fun d ρ S => ((gName 4) d ρ S).only.seq b1__law_drawn_order) (fun i : Nat => D.int (i : Nat))
    (fun j ρ T => ∃ (R : Ps) (y : Option D), ρ = [some (.loc l), a, some (.int (n : Nat)), some (.lst (R.map pD)), y, v, w] ∧ Fit n R ∧ R.length ≤ j * n ∧ Dw (k + (n - j) * n) l T ∧ Nx S T l) (List.range n) 0 [some (.loc l), a, some (.int (n : Nat)), some (.lst []), x, v, w] S
    ⟨[], x, rfl, ⟨fun _ _ h => by cases h⟩, Nat.zero_le _, h, Nx.refl _ _⟩ (by
      rintro j y ρ T hj ⟨R, y0, rfl, F, hR, d, nx⟩
      have hjl := (List.getElem?_eq_some_iff.mp hj).1
      rw [List.length_range] at hjl
      have hy : y = j := by simpa [hjl] using hj.symm
      subst hy
      rw [Nat.zero_add] at *
      have e : (n - y) * n = (n - (y + 1)) * n + n := by
        rw [show n - y = (n - (y + 1)) + 1 by omega, Nat.add_mul]
        omega
      obtain ⟨zs, T', z1, z2, z3, z4⟩ := c1_dorder (k := k + (n - (y + 1)) * n) (y := y) (d.less (by omega)) (by omega) (a := a) (b := some (.int (n : Nat))) (c := some (.lst (R.map pD))) (v := v) (w := w)
      have zl : zs.length ≤ y := by simpa using z1.length_le
      have hyn : y * n ≤ 10 * 10 := Nat.mul_le_mul (by omega) hn
      have cat : lAdd (.lst (R.map pD)) (.lst ((zs.map fun x => (x, y)).map pD)) T' = .ok ((R ++ zs.map fun x => (x, y)).map pD) T' := by
        unfold lAdd
        simp only [rd]
        rw [if_pos (by simp only [List.length_map]; omega), List.map_append]
      refine ⟨_, T', .inl ?_, R ++ zs.map fun x => (x, y), some (.int (y : Nat)), rfl, fit_more F hjl z1, ?_, z3, nx.trans z4⟩
      · generalize (R ++ zs.map fun x => (x, y)).map pD = l2 at *
        generalize (zs.map fun x => (x, y)).map pD = l3 at *
        generalize R.map pD = l1 at *
        unfold b1__law_drawn_order
        simp_arith [z2, cat]
      · rw [List.length_append, List.length_map, Nat.add_mul]
        omega)
  rw [List.length_range, Nat.zero_add] at hR d
  refine ⟨R, S', y', F, hR, ?_, d.less (by omega), nx⟩
  rw [← lp]
  unfold l1__law_drawn_order sFor
  rw [walk_n (S1 := S) (m := n) (by omega) (by simp_arith [])]
  rfl
theorem any_pD (q : Nat × Nat) : ∀ R : Ps, (D.pyAll (R.map pD)).any (fun d => PyData.eqv d (pD q).py) = decide (q ∈ R)
  | [] => by simp [D.pyAll]
  | p :: R => by
    rw [List.map_cons]
    unfold D.pyAll
    rw [List.any_cons, any_pD q R, eqv_pD]
    by_cases e : p = q
    · simp [e]
    · have e2 : ¬ q = p := fun z => e z.symm
      simp [e, e2]
theorem in_pD (q : Nat × Nat) (R : Ps) (S : Store) : inD (pD q) (.lst (R.map pD)) S = .ok (decide (q ∈ R)) S := by
  have r1 : rd (pD q) S = some (pD q) := rfl
  unfold inD
  rw [r1]
  simp only [rd]
  rw [if_pos (by rw [pD_flat 58 q, pDs_flat 58 R]; rfl), any_pD q R]
theorem nin_pD (q : Nat × Nat) (R : Ps) (S : Store) : ninD (pD q) (.lst (R.map pD)) S = .ok (!decide (q ∈ R)) S := by
  unfold ninD
  rw [in_pD]
  rfl
/-! ### closing, walked -/
section
variable {n z x : Nat} {S : Store} (hn : n ≤ 10)
theorem addX_len (R : Ps) : (addX n z R x).length ≤ R.length + n := by
  unfold addX
  rw [List.length_append, List.length_map]
  have := List.length_filter_le (fun y => !(x == y) && (decide ((x, z) ∈ R) && (decide ((z, y) ∈ R) && !decide ((x, y) ∈ R)))) (List.range n)
  rw [List.length_range] at this
  omega
include hn
theorem b2_dorder {R : Ps} {a b y : Option D} (hR : R.length ≤ 100000) : ∃ y', b2__law_drawn_order [a, b, some (.int (n : Nat)), some (.lst (R.map pD)), y, some (.int (x : Nat)), some (.int (z : Nat))] S = .next [a, b, some (.int (n : Nat)), some (.lst ((addX n z R x).map pD)), y', some (.int (x : Nat)), some (.int (z : Nat))] S := by
  have hb := big
  have hb2 : 200000 ≤ sizeLine := Nat.le_trans (by decide : 200000 ≤ 16777216) (Nat.le_of_eq sizeLine_eq.symm)
  have al := addX_len (n := n) (z := z) (x := x) R
  have c : c2__law_drawn_order [a, b, some (.int (n : Nat)), some (.lst (R.map pD)), y, some (.int (x : Nat)), some (.int (z : Nat))] S = .ok ((((List.range n).filter fun y => !(x == y) && (decide ((x, z) ∈ R) && (decide ((z, y) ∈ R) && !decide ((x, y) ∈ R)))).map fun y => (x, y)).map pD) S := by
    unfold c2__law_drawn_order
    rw [List.map_map]
    refine comp_of (fun y : Nat => D.int (y : Nat)) _ _ (walk_n (by omega) (by simp_arith [])) (fun y hy => ⟨_, rfl, ?_, fun _ => by simp_arith [wipe]; rfl⟩) (by rw [List.length_range]; omega)
    have i1 := in_pD (x, z) R S
    have i2 := in_pD (z, y) R S
    have i3 := nin_pD (x, y) R S
    have n1 : neD (.int (x : Nat)) (.int (y : Nat)) S = .ok (!(x == y)) S := by
      rw [ne_int]
      congr 2
      rw [Bool.eq_iff_iff]
      simp only [beq_iff_eq]
      omega
    generalize D.lst (R.map pD) = L at *
    unfold pD at i1 i2 i3
    dsimp only at i1 i2 i3
    generalize decide ((x, z) ∈ R) = b1 at *
    generalize decide ((z, y) ∈ R) = b2 at *
    generalize decide ((x, y) ∈ R) = b3 at *
    generalize (x == y) = b0 at *
    cases b0 <;> cases b1 <;> cases b2 <;> cases b3 <;> simp_arith [wipe, n1, i1, i2, i3, pD]
  have cat : lAdd (.lst (R.map pD)) (.lst ((((List.range n).filter fun y => !(x == y) && (decide ((x, z) ∈ R) && (decide ((z, y) ∈ R) && !decide ((x, y) ∈ R)))).map fun y => (x, y)).map pD)) S = .ok ((addX n z R x).map pD) S := by
    unfold addX at al ⊢
    rw [List.length_append] at al
    unfold lAdd
    simp only [rd]
    rw [if_pos (by rw [List.length_map, List.length_map (f := pD)]; omega), List.map_append]
  refine ⟨y, ?_⟩
  generalize (addX n z R x).map pD = l2 at *
  generalize (((List.range n).filter fun y => !(x == y) && (decide ((x, z) ∈ R) && (decide ((z, y) ∈ R) && !decide ((x, y) ∈ R)))).map fun y => (x, y)).map pD = l3 at *
  generalize R.map pD = l1 at *
  unfold b2__law_drawn_order
  simp_arith [c, cat]
end
section
variable {n z : Nat} {S : Store} (hn : n ≤ 10)
theorem foldX_len (n z : Nat) : ∀ (xs : List Nat) (R : Ps), (xs.foldl (addX n z) R).length ≤ R.length + xs.length * n
  | [], R => by simp
  | x :: xs, R => by
    have h1 := foldX_len n z xs (addX n z R x)
    have h2 := addX_len (n := n) (z := z) (x := x) R
    rw [List.foldl_cons, List.length_cons, Nat.add_mul]
    omega
include hn
theorem l2_dorder {R : Ps} {a b y x : Option D} (hR : R.length ≤ 50000) : ∃ y' x', l2__law_drawn_order [a, b, some (.int (n : Nat)), some (.lst (R.map pD)), y, x, some (.int (z : Nat))] S = .next [a, b, some (.int (n : Nat)), some (.lst ((addZ n R z).map pD)), y', x', some (.int (z : Nat))] S := by
  obtain ⟨ρ', S', lp, rfl, y', x', rfl⟩ := loop_inv (body := fun d ρ S => ((gName 5) d ρ S).only.seq b2__law_drawn_order) (fun i : Nat => D.int (i : Nat))
    (fun j ρ T => T = S ∧ ∃ y x, ρ = [a, b, some (.int (n : Nat)), some (.lst (((List.range j).foldl (addX n z) R).map pD)), y, x, some (.int (z : Nat))]) (List.range n) 0 [a, b, some (.int (n : Nat)), some (.lst (R.map pD)), y, x, some (.int (z : Nat))] S ⟨rfl, _, _, rfl⟩ (by
      rintro j x ρ T hj ⟨rfl, y, x0, rfl⟩
      have hjl := (List.getElem?_eq_some_iff.mp hj).1
      rw [List.length_range] at hjl
      have hx : x = j := by simpa [hjl] using hj.symm
      subst hx
      rw [Nat.zero_add]
      have hl := foldX_len n z (List.range x) R
      have hxn : x * n ≤ 10 * 10 := Nat.mul_le_mul (by omega) hn
      rw [List.length_range] at hl
      obtain ⟨y', e⟩ := b2_dorder (z := z) (x := x) (S := T) hn (R := (List.range x).foldl (addX n z) R) (a := a) (b := b) (y := y) (by omega)
      refine ⟨_, T, .inl ?_, rfl, y', some (.int (x : Nat)), rfl⟩
      rw [List.range_succ, List.foldl_append]
      show b2__law_drawn_order _ T = _
      exact e)
  rw [List.length_range, Nat.zero_add] at lp
  refine ⟨y', x', ?_⟩
  unfold addZ
  rw [← lp]
  unfold l2__law_drawn_order sFor
  rw [walk_n (S1 := S') (m := n) (by omega) (by simp_arith [])]
  rfl
theorem foldZ_len (R : Ps) : ∀ k, ((List.range k).foldl (addZ n) R).length ≤ R.length + k * (n * n)
  | 0 => by simp
  | k + 1 => by
    have h1 := foldZ_len R k
    rw [List.range_succ, List.foldl_append]
    have h2 := foldX_len n k (List.range n) ((List.range k).foldl (addZ n) R)
    rw [List.length_range] at h2
    show (addZ n _ k).length ≤ _
    unfold addZ at *
    rw [Nat.add_mul]
    omega
theorem l3_dorder {R : Ps} {a b y x v : Option D} (hR : R.length ≤ 10000) : ∃ y' x' v', l3__law_drawn_order [a, b, some (.int (n : Nat)), some (.lst (R.map pD)), y, x, v] S = .next [a, b, some (.int (n : Nat)), some (.lst (((List.range n).foldl (addZ n) R).map pD)), y', x', v'] S := by
  obtain ⟨ρ', S', lp, rfl, y', x', v', rfl⟩ := loop_inv (body := fun d ρ S => ((gName 6) d ρ S).only.seq b3__law_drawn_order) (fun i : Nat => D.int (i : Nat))
    (fun j ρ T => T = S ∧ ∃ y x v, ρ = [a, b, some (.int (n : Nat)), some (.lst (((List.range j).foldl (addZ n) R).map pD)), y, x, v]) (List.range n) 0 [a, b, some (.int (n : Nat)), some (.lst (R.map pD)), y, x, v] S ⟨rfl, _, _, _, rfl⟩ (by
      rintro j z ρ T hj ⟨rfl, y, x0, v0, rfl⟩
      have hjl := (List.getElem?_eq_some_iff.mp hj).1
      rw [List.length_range] at hjl
      have hx : z = j := by simpa [hjl] using hj.symm
      subst hx
      rw [Nat.zero_add]
      have hl := foldZ_len hn R z
      have hnn : n * n ≤ 10 * 10 := Nat.mul_le_mul hn hn
      have hxn : z * (n * n) ≤ 10 * 100 := Nat.mul_le_mul (by omega) (by omega)
      obtain ⟨y', x', e⟩ := l2_dorder (z := z) (S := T) hn (R := (List.range z).foldl (addZ n) R) (a := a) (b := b) (y := y) (x := x0) (by omega)
      refine ⟨_, T, .inl ?_, rfl, y', x', some (.int (z : Nat)), rfl⟩
      rw [List.range_succ, List.foldl_append]
      show b3__law_drawn_order _ T = _
      exact e)
  rw [List.length_range, Nat.zero_add] at lp
  refine ⟨y', x', v', ?_⟩
  rw [← lp]
  unfold l3__law_drawn_order sFor
  rw [walk_n (S1 := S') (m := n) (by omega) (by simp_arith [])]
  rfl
end
/-! ### the closed list is not long -/
def Ext (R R' : Ps) : Prop := ∃ E : Ps, R' = R ++ E ∧ E.Nodup ∧ ∀ q ∈ E, q ∉ R
theorem Ext.refl (R : Ps) : Ext R R := ⟨[], by simp, by simp, by simp⟩
theorem Ext.trans {R R1 R2 : Ps} (h : Ext R R1) (h' : Ext R1 R2) : Ext R R2 := by
  obtain ⟨E, rfl, n1, d1⟩ := h
  obtain ⟨F, rfl, n2, d2⟩ := h'
  refine ⟨E ++ F, by simp, ?_, fun q hq => ?_⟩
  · rw [List.nodup_append]
    refine ⟨n1, n2, fun a ha b hb e => ?_⟩
    subst e
    exact d2 a hb (List.mem_append_right _ ha)
  · rcases List.mem_append.mp hq with hq | hq
    · exact d1 q hq
    · exact fun z => d2 q hq (List.mem_append_left _ z)
theorem ext_addX (n z x : Nat) (R : Ps) : Ext R (addX n z R x) := by
  refine ⟨_, rfl, nd_map (fun a b e => congrArg Prod.snd e) (List.nodup_range.filter _), fun q hq => ?_⟩
  obtain ⟨y, hy, rfl⟩ := List.mem_map.mp hq
  have := (List.mem_filter.mp hy).2
  simp only [Bool.and_eq_true, Bool.not_eq_true', decide_eq_false_iff_not] at this
  exact this.2.2.2
theorem ext_fold {α : Type} {f : Ps → α → Ps} (h : ∀ R x, Ext R (f R x)) : ∀ (xs : List α) (R : Ps), Ext R (xs.foldl f R)
  | [], R => Ext.refl R
  | x :: xs, R => (h R x).trans (ext_fold h xs (f R x))
theorem ext_all (n : Nat) (R : Ps) : Ext R ((List.range n).foldl (addZ n) R) := ext_fold (fun R z => ext_fold (fun R x => ext_addX n z x R) _ R) _ R
def sq (n : Nat) : Ps := (List.range n).flatMap fun x => (List.range n).map fun y => (x, y)
theorem sq_len (n : Nat) : (sq n).length = n * n := by
  have : ∀ l : List Nat, (l.flatMap fun x => (List.range n).map fun y => (x, y)).length = l.length * n := by
    intro l
    induction l with
    | nil => simp
    | cons a l ih =>
      rw [List.flatMap_cons, List.length_append, ih, List.length_cons, Nat.add_mul]
      simp
      omega
  unfold sq
  rw [this, List.length_range]
theorem closed_len {n : Nat} {R : Ps} (F : Fit n R) : ((List.range n).foldl (addZ n) R).length ≤ R.length + n * n := by
  obtain ⟨E, e, nd, _⟩ := ext_all n R
  have F2 := (thru_all F n).2
  rw [e] at F2 ⊢
  rw [List.length_append, ← sq_len n]
  refine Nat.add_le_add_left (nd.length_le_of_subset fun q hq => ?_) _
  obtain ⟨x, y⟩ := q
  have := F2.lt x y (List.mem_append_right _ hq)
  unfold sq
  simp only [List.mem_flatMap, List.mem_map, List.mem_range]
  exact ⟨x, this.1, y, this.2.1, rfl⟩
/-! ### sorted, each once -/
def pI (q : Nat × Nat) : Int × Int := ((q.1 : Nat), (q.2 : Nat))
theorem pairsOf_pD {n : Nat} (hn : n ≤ 60) : ∀ {R : Ps}, Fit n R → pairsOf (R.map pD) = some (R.map pI)
  | [], _ => rfl
  | q :: R, F => by
    obtain ⟨x, y⟩ := q
    have h := F.lt x y List.mem_cons_self
    have ih := pairsOf_pD hn (R := R) ⟨fun a b hq => F.lt a b (List.mem_cons_of_mem _ hq)⟩
    rw [List.map_cons]
    unfold pairsOf
    have e : pairOf (pD (x, y)) = some (pI (x, y)) := by
      unfold pD pairOf
      dsimp only
      rw [if_pos (by omega)]
      rfl
    rw [e, ih]
    rfl
theorem sortSet_pD {n : Nat} (hn : n ≤ 60) {R : Ps} (F : Fit n R) (hl : R.length < 64) : ∃ qs : Ps, qs.Nodup ∧ (∀ q, q ∈ qs ↔ q ∈ R) ∧ ∀ S, sortSet (.lst (R.map pD)) S = .ok (qs.map pD) S := by
  have bd : ∀ p ∈ R.map pI, 0 ≤ p.1 ∧ p.1 < 64 ∧ 0 ≤ p.2 ∧ p.2 < 64 := by
    intro p hp
    obtain ⟨⟨x, y⟩, hq, rfl⟩ := List.mem_map.mp hp
    have := F.lt x y hq
    unfold pI
    dsimp only
    omega
  have nd : (canon (R.map pI)).Nodup := (canon_sorted _).imp fun h e => by
    subst e
    unfold plt at h
    omega
  have back : ∀ p ∈ canon (R.map pI), pI (p.1.toNat, p.2.toNat) = p := by
    intro p hp
    have := bd p ((mem_canon bd).mp hp)
    unfold pI
    ext <;> dsimp only <;> omega
  refine ⟨(canon (R.map pI)).map fun p => (p.1.toNat, p.2.toNat), ?_, fun q => ?_, fun S => ?_⟩
  · rw [List.Nodup, List.pairwise_map]
    refine nd.imp_of_mem fun {a b} ha hb ne e => ne ?_
    rw [← back a ha, ← back b hb, e]
  · rw [List.mem_map]
    constructor
    · rintro ⟨p, hp, rfl⟩
      obtain ⟨q, hq, e⟩ := List.mem_map.mp ((mem_canon bd).mp hp)
      subst e
      simpa [pI] using hq
    · intro hq
      exact ⟨pI q, (mem_canon bd).mpr (List.mem_map.mpr ⟨q, hq, rfl⟩), by simp [pI]⟩
  · unfold sortSet
    simp only [rd]
    rw [pairsOf_pD hn F]
    dsimp only
    rw [if_pos (by simpa using hl), List.map_map]
    congr 1
    apply List.map_congr_left
    intro p hp
    conv => lhs; rw [← back p hp]
    rfl
theorem fit_swap {n : Nat} {R : Ps} (F : Fit n R) (h : 1 < n) : Fit n (R ++ [(1, 0), (0, 1)]) where
  lt := fun x y hq => by
    rcases List.mem_append.mp hq with hq | hq
    · exact F.lt x y hq
    · simp at hq
      omega
theorem drawn_order_ok {k l t : Nat} {S : Store} (ht : t ≤ 5) (h : Dw (k + t * t + 2) l S) :
    ∃ (W : Wd) (S' : Store), IsCat W ∧ W.n ≤ t ∧ f__law_drawn_order [.loc l, .int (t : Nat)] S = .ok W.D S' ∧ Dw k l S' ∧ Nx S S' l := by
  have hb := big
  obtain ⟨n, S1, e1, hn, d1, x1⟩ := draw_call (b := ((t : Int) + 1)) (h.less (show (k + t * t + 1) + 1 ≤ _ by omega)) (by omega) (by omega)
  have hn : n ≤ t := by omega
  have hnn : n * n ≤ t * t := Nat.mul_le_mul hn hn
  have htt : t * t ≤ 5 * 5 := Nat.mul_le_mul ht ht
  obtain ⟨R, S2, y', F, hR, e2, d2, x2⟩ := l1_dorder (k := k + 1) (n := n) (S := S1) (l := l) (by omega) (d1.less (by omega)) (a := some (.int (t : Nat))) (v := none) (w := none) (x := none)
  have fin : ∀ R2 : Ps, Fit n R2 → R2.length ≤ n * n + 2 → ∃ W : Wd, IsCat W ∧ W.n = n ∧ ∀ S y, (sSeq l3__law_drawn_order (sRet (eCall callP 2 f__law_order (aCons (eVar 2) (aCons (eFrz (lOp1 sortSet (eVar 3))) aNil))))) [some (.loc l), some (.int (t : Nat)), some (.int (n : Nat)), some (.lst (R2.map pD)), y, none, none] S = .ret W.D S := by
    intro R2 F2 h2
    have cl := closed_len F2
    obtain ⟨qs, q1, q2, q3⟩ := sortSet_pD (by omega) (thru_all F2 n).2 (by omega)
    have ql : qs.length ≤ 60 := by
      have := q1.length_le_of_subset (fun q hq => (q2 q).mp hq)
      omega
    obtain ⟨W, C, w1, w2, w3⟩ := call_order (closed_pre F2 q1 q2) (by omega)
    refine ⟨W, C, w1, fun S y => ?_⟩
    obtain ⟨y', x', v', e⟩ := l3_dorder (S := S) (n := n) (by omega) (R := R2) (a := some (.loc l)) (b := some (.int (t : Nat))) (y := y) (x := none) (v := none) (by omega)
    simp_arith [e, q3, w3, lOp1]
  have sw : lAdd (.lst (R.map pD)) (.lst [.tup [.int 1, .int 0], .tup [.int 0, .int 1]]) = fun S => .ok ((R ++ [(1, 0), (0, 1)]).map pD) S := by
    funext S
    unfold lAdd
    simp only [rd]
    rw [if_pos (by simp only [List.length_map, List.length_cons, List.length_nil]; omega), List.map_append]
    rfl
  by_cases h1 : 1 < n
  · have h1i : (1 : Int) < (n : Int) := by omega
    obtain ⟨r, S3, e3, hr, d3, x3⟩ := draw_call (b := 5) d2 (by decide) (by decide)
    by_cases h2 : r = 0
    · obtain ⟨W, C, w1, w2⟩ := fin _ (fit_swap F h1) (by simp; omega)
      refine ⟨W, S3, C, by omega, ?_, d3, (x1.trans x2).trans x3⟩
      have w3 := w2 S3 y'
      unfold f__law_drawn_order m__law_drawn_order
      generalize sSeq l3__law_drawn_order _ = T at *
      generalize (R ++ [(1, 0), (0, 1)]).map pD = l2 at *
      subst h2
      simp_arith [add_int, e1, e2, e3, gtD, b2, h1i, eq_int, sw, w3]
    · obtain ⟨W, C, w1, w2⟩ := fin _ F (by omega)
      refine ⟨W, S3, C, by omega, ?_, d3, (x1.trans x2).trans x3⟩
      have w3 := w2 S3 y'
      unfold f__law_drawn_order m__law_drawn_order
      generalize sSeq l3__law_drawn_order _ = T at *
      have hh : ((r : Int) == 0) = false := by simp; omega
      simp_arith [add_int, e1, e2, e3, gtD, b2, hh, h1i, h2, eq_int, w3]
  · have h1i : ¬ (1 : Int) < (n : Int) := by omega
    obtain ⟨W, C, w1, w2⟩ := fin _ F (by omega)
    refine ⟨W, S2, C, by omega, ?_, d2.less (by omega), x1.trans x2⟩
    have w3 := w2 S2 y'
    unfold f__law_drawn_order m__law_drawn_order
    generalize sSeq l3__law_drawn_order _ = T at *
    simp_arith [add_int, e1, e2, gtD, b2, h1i, w3]
theorem callS_of {f : FM} {ds : List D} {d : D} {S S' : Store} {l : Nat} (h : f ds S = .ok d S') (hd : d.under S.length = true) (ok : Ok S') (nx : Nx S S' l) : callS f ds S = .ok d S' := by
  unfold callS
  rw [h]
  dsimp only
  have tk : S'.take S.length = S' := by rw [← nx.len, List.take_length]
  rw [tk]
  have ok2 : S'.all (obUnder S.length) = true := by rw [← nx.len]; exact ok
  simp [hd, ok2]
theorem underAll_map {α : Type} {F : α → D} {n : Nat} : ∀ {l : List α}, (∀ x ∈ l, (F x).under n = true) → D.underAll n (l.map F) = true
  | [], _ => rfl
  | x :: l, h => by
    rw [List.map_cons]
    unfold D.underAll
    rw [h x List.mem_cons_self, underAll_map fun y hy => h y (List.mem_cons_of_mem _ hy)]
    rfl
theorem wd_under (W : Wd) (n : Nat) : W.D.under n = true := by
  have h1 : D.underAll n ((List.range W.m).map W.eD) = true := underAll_map fun x _ => rfl
  have h2 : D.underAll n ((List.range W.m).map W.rD) = true := underAll_map fun x _ => by
    unfold Wd.rD D.under
    exact underAll_map fun y _ => rfl
  unfold Wd.D
  simp [D.under, D.underAll, h1, h2]
theorem call_dorder {k l t : Nat} {S : Store} (ht : t ≤ 5) (h : Dw (k + t * t + 2) l S) :
    ∃ (W : Wd) (S' : Store), IsCat W ∧ W.n ≤ t ∧ callS f__law_drawn_order [.loc l, .int (t : Nat)] S = .ok W.D S' ∧ Dw k l S' ∧ Nx S S' l := by
  obtain ⟨W, S', C, hn, e, d, x⟩ := drawn_order_ok ht h
  exact ⟨W, S', C, hn, callS_of e (wd_under W _) d.ok x, d, x⟩
end Mi
set_option linter.all false
set_option maxRecDepth 100000
namespace Mi
open PySem L2 L_TE
/-- a comprehension whose values are drawn -/
theorem lc_val {α β : Type} {vs : List Nat} {g : GM} {e : EM} {ρ : Env} (enc : α → D) (val : β → D) (P : β → Prop) (I : Nat → Store → Prop) : ∀ (xs : List α) (acc : List D) (S : Store), I xs.length S →
    (∀ x ∈ xs, ∀ n S, I (n + 1) S → ∃ ρ1, g (enc x) (wipe ρ vs) S = .next ρ1 S ∧ ∃ (b : β) (S' : Store), e ρ1 S = .ok (val b) S' ∧ P b ∧ I n S') → acc.length + xs.length ≤ sizeLine →
    ∃ (zs : List β) (S' : Store), zs.length = xs.length ∧ (∀ b ∈ zs, P b) ∧ lcGo vs g tYes e ρ (xs.map enc) acc S = .ok (acc ++ zs.map val) S' ∧ I 0 S'
  | [], acc, S, hI, _, _ => ⟨[], S, rfl, by simp, by simp [lcGo], hI⟩
  | x :: xs, acc, S, hI, h, hl => by
    obtain ⟨ρ1, h1, b, S1, h2, h3, h4⟩ := h x List.mem_cons_self xs.length S hI
    rw [List.map_cons]
    unfold lcGo
    rw [h1]
    dsimp only [tYes]
    rw [h2]
    dsimp only
    rw [if_pos (by simp at hl; omega)]
    obtain ⟨zs, S', z1, z2, z3, z4⟩ := lc_val enc val P I xs (acc ++ [val b]) S1 h4 (fun y hy => h y (List.mem_cons_of_mem _ hy)) (by simp at hl ⊢; omega)
    refine ⟨b :: zs, S', by simp [z1], fun c hc => ?_, ?_, z4⟩
    · rcases List.mem_cons.mp hc with rfl | hc
      · exact h3
      · exact z2 c hc
    · refine Eq.trans z3 ?_
      simp
/-! ### moves -/
structure Mv where
  x : Nat
  y : Nat
  es : List Nat
deriving DecidableEq
def mD (m : Mv) : D := .tup [.int (m.x : Nat), .int (m.y : Nat), .tup (m.es.map fun e => .int (e : Nat))]
def Mv.idle (sz : List Nat) (x : Nat) : Mv := ⟨x, x, List.range (sz.getD x 0)⟩
def Mv.cf (a b : Mv) : Mv := ⟨a.x, b.y, a.es.map fun e => b.es.getD e 0⟩
structure Mv.Fit (sz : List Nat) (m : Mv) : Prop where
  hx : m.x < sz.length
  hy : m.y < sz.length
  len : m.es.length = sz.getD m.x 0
  lt : ∀ e ∈ m.es, e < sz.getD m.y 0
theorem Mv.Fit.cf {sz : List Nat} {a b : Mv} (ha : Mv.Fit sz a) (hb : Mv.Fit sz b) (e : a.y = b.x) : Mv.Fit sz (a.cf b) where
  hx := ha.hx
  hy := hb.hy
  len := by unfold Mv.cf; simpa using ha.len
  lt := fun i hi => by
    obtain ⟨j, hj, rfl⟩ := List.mem_map.mp hi
    have h1 := ha.lt j hj
    rw [e, ← hb.len] at h1
    refine hb.lt _ ?_
    rw [List.getD_eq_getElem?_getD, List.getElem?_eq_getElem h1]
    exact List.getElem_mem h1
theorem Mv.Fit.idle {sz : List Nat} {x : Nat} (h : x < sz.length) : Mv.Fit sz (Mv.idle sz x) where
  hx := h
  hy := h
  len := by unfold Mv.idle; simp
  lt := fun e he => by unfold Mv.idle at *; simpa using he
theorem Mv.idle_cf {sz : List Nat} {a : Mv} (ha : Mv.Fit sz a) : (Mv.idle sz a.x).cf a = a := by
  have : (List.range (sz.getD a.x 0)).map (fun e => a.es.getD e 0) = a.es := by
    apply List.ext_getElem
    · simp [ha.len]
    · intro i h1 h2
      simp [h2]
  cases a
  simp only [Mv.idle, Mv.cf] at *
  rw [this]
theorem Mv.cf_idle {sz : List Nat} {a : Mv} (ha : Mv.Fit sz a) : a.cf (Mv.idle sz a.y) = a := by
  have : a.es.map (fun e => (List.range (sz.getD a.y 0)).getD e 0) = a.es := by
    conv => rhs; rw [← List.map_id a.es]
    apply List.map_congr_left
    intro e he
    have := ha.lt e he
    rw [List.getD_eq_getElem?_getD, List.getElem?_range this]
    rfl
  cases a
  simp only [Mv.idle, Mv.cf] at *
  rw [this]
theorem Mv.cf_assoc {sz : List Nat} {a b c : Mv} (ha : Mv.Fit sz a) (hb : Mv.Fit sz b) (e : a.y = b.x) : (a.cf b).cf c = a.cf (b.cf c) := by
  unfold Mv.cf
  simp only [List.map_map, Mv.mk.injEq, true_and]
  apply List.map_congr_left
  intro i hi
  have h1 := ha.lt i hi
  rw [e, ← hb.len] at h1
  simp [List.getD_eq_getElem?_getD, h1]
/-- a list of moves that is a category -/
structure Mvs (sz : List Nat) (L : List Mv) : Prop where
  nd : L.Nodup
  fit : ∀ m ∈ L, Mv.Fit sz m
  idle : ∀ x, x < sz.length → Mv.idle sz x ∈ L
  cl : ∀ a ∈ L, ∀ b ∈ L, a.y = b.x → a.cf b ∈ L
theorem Mvs.ac {sz : List Nat} {L : List Mv} (Z : Mvs sz L) : AC (List.range sz.length) L Mv.x Mv.y (Mv.idle sz) Mv.cf where
  tnd := List.nodup_range
  nd := Z.nd
  st := fun t ht => ⟨Z.idle t (List.mem_range.mp ht), rfl, rfl⟩
  en := fun a ha => ⟨List.mem_range.mpr (Z.fit a ha).hx, List.mem_range.mpr (Z.fit a ha).hy⟩
  cl := fun a ha b hb e => ⟨Z.cl a ha b hb e, rfl, rfl⟩
  uL := fun a ha => Mv.idle_cf (Z.fit a ha)
  uR := fun a ha => Mv.cf_idle (Z.fit a ha)
  asc := fun a ha b hb c hc e1 e2 => Mv.cf_assoc (Z.fit a ha) (Z.fit b hb) e1
theorem flat_nats (k : Nat) : ∀ l : List Nat, D.flatAll (k + 1) (l.map fun e => D.int (e : Nat)) = true
  | [] => by simp [D.flatAll]
  | a :: l => by simp [D.flatAll, D.flat, flat_nats k l]
theorem mD_flat (k : Nat) (m : Mv) : D.flat (k + 3) (mD m) = true := by
  unfold mD
  simp [D.flat, D.flatAll, flat_nats k]
theorem mDs_flat (k : Nat) : ∀ L : List Mv, D.flatAll (k + 3) (L.map mD) = true
  | [] => by simp [D.flatAll]
  | q :: ps => by simp [D.flatAll, mD_flat, mDs_flat k ps]
theorem eqvAll_nats : ∀ l m : List Nat, PyData.eqvAll (D.pyAll (l.map fun e => D.int (e : Nat))) (D.pyAll (m.map fun e => D.int (e : Nat))) = decide (l = m)
  | [], [] => rfl
  | [], _ :: _ => rfl
  | _ :: _, [] => rfl
  | a :: l, b :: m => by
    have ih := eqvAll_nats l m
    simp only [List.map_cons, D.pyAll, D.py, PyData.eqvAll, PyData.eqv, ih]
    rw [Bool.eq_iff_iff]
    simp only [Bool.and_eq_true, beq_iff_eq, decide_eq_true_eq, List.cons.injEq, Int.natCast_inj]
theorem eqv_mD (a b : Mv) : PyData.eqv (mD a).py (mD b).py = decide (a = b) := by
  have h := eqvAll_nats a.es b.es
  cases a
  cases b
  unfold mD
  simp only [D.py, D.pyAll, PyData.eqv, PyData.eqvAll, h, Mv.mk.injEq]
  rw [Bool.eq_iff_iff]
  simp only [Bool.and_eq_true, beq_iff_eq, decide_eq_true_eq, Int.natCast_inj, and_true]
theorem any_mD (q : Mv) : ∀ R : List Mv, (D.pyAll (R.map mD)).any (fun d => PyData.eqv d (mD q).py) = decide (q ∈ R)
  | [] => by simp [D.pyAll]
  | p :: R => by
    rw [List.map_cons]
    unfold D.pyAll
    rw [List.any_cons, any_mD q R, eqv_mD]
    by_cases e : p = q
    · simp [e]
    · have e2 : ¬ q = p := fun z => e z.symm
      simp [e, e2]
theorem in_mD (q : Mv) {x : D} (R : List Mv) (S : Store) (h : rd x S = some (.lst (R.map mD))) : inD (mD q) x S = .ok (decide (q ∈ R)) S := by
  have r1 : rd (mD q) S = some (mD q) := rfl
  unfold inD
  rw [r1, h]
  dsimp only
  rw [if_pos (by rw [mD_flat 57 q, mDs_flat 57 R]; rfl), any_mD q R]
theorem nin_mD (q : Mv) {x : D} (R : List Mv) (S : Store) (h : rd x S = some (.lst (R.map mD))) : ninD (mD q) x S = .ok (!decide (q ∈ R)) S := by
  unfold ninD
  rw [in_mD q R S h]
  rfl
/-! ### moves as keys -/
theorem keys_nats : ∀ (l : List Nat) (n : Nat), D.keyAllN n (l.map fun e => D.int (e : Nat)) = some (l.map fun e => .num (e : Nat))
  | [], _ => by simp [D.keyAllN]
  | a :: l, n => by
    simp only [List.map_cons]
    unfold D.keyAllN
    rw [keys_nats l n]
    cases n <;> simp [D.keyN]
theorem key_mD (m : Mv) : (mD m).key = some (.tup [.num (m.x : Nat), .num (m.y : Nat), .tup (m.es.map fun e => .num (e : Nat))]) := by
  unfold mD D.key
  simp [D.keyN, D.keyAllN, keys_nats]
theorem nums_inj : ∀ l m : List Nat, l.map (fun e => NestedKey.num (e : Nat)) = m.map (fun e => NestedKey.num (e : Nat)) → l = m
  | [], [], _ => rfl
  | [], _ :: _, h => by cases h
  | _ :: _, [], h => by cases h
  | a :: l, b :: m, h => by
    simp only [List.map_cons, List.cons.injEq, NestedKey.num.injEq, Int.natCast_inj] at h
    rw [h.1, nums_inj l m h.2]
theorem ke_mv : KE mD true where
  inj := fun a c h => by
    rw [key_mD, key_mD] at h
    cases a
    cases c
    simp at h
    obtain ⟨h1, h2, h3⟩ := h
    have h3 := nums_inj _ _ h3
    have h1 := Int.natCast_inj.mp h1
    have h2 := Int.natCast_inj.mp h2
    subst h1 h2 h3
    rfl
  tup := fun _ a => ⟨⟨_, rfl⟩, by rw [key_mD]; rfl⟩
  sim := fun h => by cases h
/-! ### closing moves: the plain side -/
def st1 (L : List Mv) (p : Mv × Mv) : List Mv := if p.1.y = p.2.x ∧ p.1.cf p.2 ∉ L then L ++ [p.1.cf p.2] else L
def st2 (f : Mv) (L : List Mv) (o : Mv) : List Mv := st1 (st1 L (f, o)) (o, f)
/-- M is L with more behind it -/
structure Grow (sz : List Nat) (L : List Mv) : Prop where
  nd : L.Nodup
  fit : ∀ m ∈ L, Mv.Fit sz m
theorem Grow.st1 {sz : List Nat} {L : List Mv} (h : Grow sz L) {p : Mv × Mv} (h1 : p.1 ∈ L) (h2 : p.2 ∈ L) : Grow sz (st1 L p) := by
  unfold Mi.st1
  split
  · rename_i e
    refine ⟨?_, fun m hm => ?_⟩
    · rw [List.nodup_append]
      refine ⟨h.nd, by simp, fun a ha b hb e2 => ?_⟩
      rw [List.mem_singleton.mp hb] at e2
      subst e2
      exact e.2 ha
    · rcases List.mem_append.mp hm with hm | hm
      · exact h.fit m hm
      · rw [List.mem_singleton.mp hm]
        exact (h.fit _ h1).cf (h.fit _ h2) e.1
  · exact h
theorem st1_pre (L : List Mv) (p : Mv × Mv) : L <+: st1 L p := by
  unfold st1
  split
  · exact List.prefix_append _ _
  · exact List.prefix_refl _
theorem st1_has (L : List Mv) (p : Mv × Mv) (e : p.1.y = p.2.x) : p.1.cf p.2 ∈ st1 L p := by
  unfold st1
  split
  · simp
  · rename_i h
    exact Classical.not_not.mp fun z => h ⟨e, z⟩
theorem st1_len (L : List Mv) (p : Mv × Mv) : (st1 L p).length ≤ L.length + 1 := by
  unfold st1
  split <;> simp
theorem st2_pre (f o : Mv) (L : List Mv) : L <+: st2 f L o := (st1_pre _ _).trans (st1_pre _ _)
theorem st2_len (f o : Mv) (L : List Mv) : (st2 f L o).length ≤ L.length + 2 := by
  have h1 := st1_len L (f, o)
  have h2 := st1_len (st1 L (f, o)) (o, f)
  unfold st2
  omega
theorem Grow.st2 {sz : List Nat} {L : List Mv} (h : Grow sz L) {f o : Mv} (h1 : f ∈ L) (h2 : o ∈ L) : Grow sz (st2 f L o) :=
  (h.st1 (p := (f, o)) h1 h2).st1 (p := (o, f)) ((st1_pre _ _).subset h2) ((st1_pre _ _).subset h1)
theorem st2_has {f o : Mv} (L : List Mv) : (f.y = o.x → f.cf o ∈ st2 f L o) ∧ (o.y = f.x → o.cf f ∈ st2 f L o) :=
  ⟨fun e => (st1_pre _ _).subset (st1_has L (f, o) e), fun e => st1_has _ (o, f) e⟩
theorem fold2 {sz : List Nat} {f : Mv} : ∀ (os L : List Mv), Grow sz L → f ∈ L → (∀ o ∈ os, o ∈ L) → Grow sz (os.foldl (st2 f) L) ∧ L <+: os.foldl (st2 f) L ∧ (∀ o ∈ os, (f.y = o.x → f.cf o ∈ os.foldl (st2 f) L) ∧ (o.y = f.x → o.cf f ∈ os.foldl (st2 f) L)) ∧ (os.foldl (st2 f) L).length ≤ L.length + 2 * os.length
  | [], L, h, _, _ => ⟨h, List.prefix_refl _, by simp, by simp⟩
  | o :: os, L, h, hf, ho => by
    have p := st2_pre f o L
    obtain ⟨g1, g2, g3, g4⟩ := fold2 os (st2 f L o) (h.st2 hf (ho o List.mem_cons_self)) (p.subset hf) (fun q hq => p.subset (ho q (List.mem_cons_of_mem _ hq)))
    rw [List.foldl_cons]
    refine ⟨g1, p.trans g2, fun q hq => ?_, ?_⟩
    · rcases List.mem_cons.mp hq with rfl | hq
      · obtain ⟨h1, h2⟩ := st2_has (f := f) (o := q) L
        exact ⟨fun e => g2.subset (h1 e), fun e => g2.subset (h2 e)⟩
      · exact g3 q hq
    · have := st2_len f o L
      rw [List.length_cons]
      omega
/-- closed among the first k -/
def Cl (k : Nat) (L : List Mv) : Prop := ∀ i j a b, i < k → j < k → L[i]? = some a → L[j]? = some b → a.y = b.x → a.cf b ∈ L
theorem pre_get {L M : List Mv} (p : L <+: M) {i : Nat} (h : i < L.length) : M[i]? = L[i]? := by
  obtain ⟨t, rfl⟩ := p
  exact List.getElem?_append_left h
theorem Cl.step {sz : List Nat} {k : Nat} {L : List Mv} {f : Mv} (h : Grow sz L) (c : Cl k L) (hf : L[k]? = some f) : Cl (k + 1) (L.foldl (st2 f) L) := by
  have hk := (List.getElem?_eq_some_iff.mp hf).1
  have mf := List.mem_of_getElem? hf
  obtain ⟨_, p, g, _⟩ := fold2 L L h mf fun _ h => h
  intro i j a b hi hj ha hb e
  rw [pre_get p (by omega)] at ha hb
  by_cases ei : i = k
  · subst ei
    rw [hf] at ha
    cases ha
    exact (g b (List.mem_of_getElem? hb)).1 e
  · by_cases ej : j = k
    · subst ej
      rw [hf] at hb
      cases hb
      exact (g a (List.mem_of_getElem? ha)).2 e
    · exact p.subset (c i j a b (by omega) (by omega) ha hb e)
theorem Cl.all {k : Nat} {L : List Mv} (c : Cl k L) (h : L.length ≤ k) : ∀ a ∈ L, ∀ b ∈ L, a.y = b.x → a.cf b ∈ L := by
  intro a ha b hb e
  obtain ⟨i, hi, rfl⟩ := List.getElem_of_mem ha
  obtain ⟨j, hj, rfl⟩ := List.getElem_of_mem hb
  exact c i j _ _ (by omega) (by omega) (List.getElem?_eq_getElem hi) (List.getElem?_eq_getElem hj) e
theorem Cl.more {k : Nat} {L : List Mv} (c : Cl k L) (h : L.length ≤ k) : Cl (k + 1) L := fun i j a b hi hj ha hb e => c.all h a (List.mem_of_getElem? ha) b (List.mem_of_getElem? hb) e
end Mi
set_option linter.all false
set_option maxRecDepth 100000
namespace Mi
open PySem L2 L_TE
local macro_rules | `(tactic| simp_arith [$ls,*]) => `(tactic| simp [runF, sSeq, sIf, sAsg, sRet, sRetN, sNext, sDrop, sBrk, sCont, sPar, gName, gTup, gSeq, gSub, eOp1, eOp2, eVar, eC, eBlt, lBlt, lOp1, lOp2, sl3, aOne, aCons, aNil, eTup, lOf, eFrz, eNew, eIf, eB, tB, tNot, tAnd, tOr, tOp2, tChain, eAnd, eOr, eCall, eMth, Res.toS, SRes.seq, SRes.only, Res.bind, iOf, items, iRange1, iRange2, iEnum, enumOf, range1, range2, sFrz, b2, i2, i2c, gtD, ltD, leD, geD, subD, mulD, modD, divD, intD, isN, notN, D.isNon, negD, sizeLine_eq, $ls,*])
/-! ### sorting what is encoded -/
theorem sort_enc {α : Type} (enc : α → D) (xs : List α) (h : sortB (xs.map enc) = true) : ∃ ys : List α, ys.Perm xs ∧ ∀ S, sortF [.lst (xs.map enc)] S = .ok (ys.map enc) S := by
  refine ⟨xs.mergeSort fun a b => leS (enc a) (enc b), List.mergeSort_perm _ _, fun S => ?_⟩
  unfold sortF
  simp only [rd]
  rw [if_pos h, isrt_eq, List.map_mergeSort (s := leS) (fun _ _ _ _ => rfl)]
theorem rd_atD {S : Store} {l : Nat} {b : Bool} {ks vs : List D} (g : S[l]? = some (some (.dct b ks vs))) : rd (.loc l) S = some (.dct b ks vs) := by
  unfold rd
  dsimp only
  rw [g]
theorem frz_atD {S : Store} {l : Nat} {b : Bool} {ks vs : List D} (g : S[l]? = some (some (.dct b ks vs))) : frz (.loc l) S = .ok (.dct b ks vs) (S.set l none) := by
  unfold frz
  dsimp only
  rw [g]
/-- a comprehension that makes places -/
theorem lc_st {α : Type} {vs : List Nat} {g : GM} {e : EM} {ρ : Env} (enc : α → D) (val : Nat → D) (St : Nat → Store) : ∀ (xs : List α) (k : Nat) (acc : List D),
    (∀ j x, xs[j]? = some x → ∃ ρ1, g (enc x) (wipe ρ vs) (St (k + j)) = .next ρ1 (St (k + j)) ∧ e ρ1 (St (k + j)) = .ok (val (k + j)) (St (k + j + 1))) → acc.length + xs.length ≤ sizeLine →
    lcGo vs g tYes e ρ (xs.map enc) acc (St k) = .ok (acc ++ (List.range xs.length).map fun i => val (k + i)) (St (k + xs.length))
  | [], k, acc, _, _ => by simp [lcGo]
  | x :: xs, k, acc, h, hl => by
    obtain ⟨ρ1, h1, h2⟩ := h 0 x rfl
    rw [Nat.add_zero] at h1 h2
    rw [List.map_cons]
    unfold lcGo
    rw [h1]
    dsimp only [tYes]
    rw [h2]
    dsimp only
    rw [if_pos (by simp at hl; omega), lc_st enc val St xs (k + 1) _ (fun j y hy => by
      have := h (j + 1) y (by simpa using hy)
      rwa [show k + (j + 1) = k + 1 + j by omega] at this) (by simp at hl ⊢; omega)]
    rw [List.length_cons, List.range_succ_eq_map, List.map_cons, List.map_map, List.append_assoc, List.singleton_append, show k + 1 + xs.length = k + (xs.length + 1) by omega]
    congr 3
    refine List.map_congr_left fun i _ => ?_
    show val (k + 1 + i) = val (k + (i + 1))
    congr 1
    omega
/-! ### the walk of _law_named -/
section
variable {T A : Type} [DecidableEq T] [DecidableEq A] {encT : T → D} {bT : Bool} {encA encN : A → D}
/-- a pair of arrows as a key -/
def ppD {A : Type} (encA : A → D) (p : A × A) : D := .tup [encA p.1, encA p.2]
def numV {T : Type} [DecidableEq T] (us : List T) (t : T) : D := .int (us.idxOf t : Nat)
def endV {T A : Type} [DecidableEq T] (us : List T) (src dst : A → T) (a : A) : D := .tup [numV us (src a), numV us (dst a)]
def arrV {T A : Type} (encT : T → D) (encN : A → D) (src dst : A → T) (a : A) : D := .tup [encT (src a), encT (dst a), encN a]
def restV {T A : Type} [DecidableEq T] (us : List T) (encA encN : A → D) (src dst : A → T) (a : A) : D := .tup [numV us (src a), numV us (dst a), encN a, encA a]
variable (ET : KE encT bT) (EA : KE encA true)
variable {ts us : List T} {as rs al : List A} {src dst : A → T} {still : T → A} {cf : A → A → A} {fl : List (A × A)} {encF : A × A → D}
theorem idx_at {l : List T} (nd : l.Nodup) {i : Nat} {t : T} (h : l[i]? = some t) : l.idxOf t = i := by
  obtain ⟨hl, rfl⟩ := List.getElem?_eq_some_iff.mp h
  exact nd.idxOf_getElem i hl
include ET EA
theorem l1_named (hsrt : ∀ S, sortF [.lst (ts.map encT)] S = .ok (us.map encT) S) (nd : us.Nodup) (hal : al = us.map still ++ rs) (nda : al.Nodup) (hsd : ∀ t ∈ us, src (still t) = t ∧ dst (still t) = t) (hst : ∀ t ∈ us, t ∈ ts) (hl : al.length ≤ 4000)
    {a1 a3 a9 a10 a11 a12 a13 a14 a15 a16 a17 a18 a19 : Option D} {k7 k8 : Option D} :
    ∃ k7' k8', l1__law_named [some (.lst (ts.map encT)), a1, some (dD bT encT (fun t => encA (still t)) ts), a3, some (.loc 0), some (.loc 1), some (.loc 2), k7, k8, a9, a10, a11, a12, a13, a14, a15, a16, a17, a18, a19] [some (.dct false [] []), some (.dct false [] []), some (.lst [])] =
      .next [some (.lst (ts.map encT)), a1, some (dD bT encT (fun t => encA (still t)) ts), a3, some (.loc 0), some (.loc 1), some (.loc 2), k7', k8', a9, a10, a11, a12, a13, a14, a15, a16, a17, a18, a19]
        [some (dO bT encT (numV us) us), some (dO true encA (numV al) (us.map still)), some (.lst ((us.map still).map (endV us src dst)))] := by
  have hb := big
  have ul : us.length ≤ al.length := by rw [hal]; simp
  obtain ⟨ρ', S', lp, k7', k8', rfl, rfl⟩ := loop_inv (body := fun d ρ S => ((gTup [gName 7, gName 8]) d ρ S).only.seq b1__law_named) (fun p : T × Nat => .tup [.int (p.2 : Nat), encT p.1])
    (fun j ρ S => ∃ k7 k8, ρ = [some (.lst (ts.map encT)), a1, some (dD bT encT (fun t => encA (still t)) ts), a3, some (.loc 0), some (.loc 1), some (.loc 2), k7, k8, a9, a10, a11, a12, a13, a14, a15, a16, a17, a18, a19] ∧
      S = [some (dO bT encT (numV us) (us.take j)), some (dO true encA (numV al) ((us.take j).map still)), some (.lst (((us.take j).map still).map (endV us src dst)))]) (us.zipIdx 0) 0
    [some (.lst (ts.map encT)), a1, some (dD bT encT (fun t => encA (still t)) ts), a3, some (.loc 0), some (.loc 1), some (.loc 2), k7, k8, a9, a10, a11, a12, a13, a14, a15, a16, a17, a18, a19] [some (.dct false [] []), some (.dct false [] []), some (.lst [])]
    ⟨_, _, rfl, by simp [dO]⟩ (by
      rintro j ⟨t, i⟩ ρ S hj ⟨k7, k8, rfl, rfl⟩
      rw [Nat.zero_add]
      have hj1 : us[j]? = some t ∧ i = j := by
        rw [List.getElem?_zipIdx] at hj
        cases hu : us[j]? with
        | none => rw [hu] at hj; cases hj
        | some u => rw [hu] at hj; simp at hj; exact ⟨by rw [hj.1], hj.2.symm⟩
      obtain ⟨ht, rfl⟩ := hj1
      have hmem := List.mem_of_getElem? ht
      have hjl := (List.getElem?_eq_some_iff.mp ht).1
      have tk : us.take (i + 1) = us.take i ++ [t] := by rw [List.take_add_one, ht]; rfl
      have nt : numV us t = .int (i : Nat) := by unfold numV; rw [idx_at nd ht]
      have hals : al[i]? = some (still t) := by
        rw [hal, List.getElem?_append_left (by simpa using hjl), List.getElem?_map, ht]
        rfl
      have na : numV al (still t) = .int (i : Nat) := by unfold numV; rw [idx_at nda hals]
      have ne : endV us src dst (still t) = .tup [.int (i : Nat), .int (i : Nat)] := by
        unfold endV
        rw [(hsd t hmem).1, (hsd t hmem).2, nt]
      have fresh : t ∉ us.take i := by
        have := nd
        rw [← List.take_append_drop (i + 1) us, List.nodup_append, tk, List.nodup_append] at this
        intro z
        exact this.1.2.2 t z t (by simp) rfl
      have freshA : still t ∉ (us.take i).map still := by
        have n2 : (us.map still).Nodup := by
          rw [hal, List.nodup_append] at nda
          exact nda.1
        have n3 : ((us.take (i + 1)).map still).Nodup := by
          rw [List.map_take]
          exact n2.sublist (List.take_sublist _ _)
        rw [tk, List.map_append, List.nodup_append] at n3
        intro z
        exact n3.2.2 _ z _ (by simp) rfl
      have len : (us.take i).length ≤ 4000 := by simp; omega
      have p1 := ET.put (S := [some (dO bT encT (numV us) (us.take i)), some (dO true encA (numV al) ((us.take i).map still)), some (.lst (((us.take i).map still).map (endV us src dst)))]) (l := 0) (val := numV us) rfl fresh (by omega)
      rw [← tk, nt] at p1
      have p2 := fun S => ET.idx (x := dD bT encT (fun t => encA (still t)) ts) (S := S) (val := fun t => encA (still t)) (ks := ts) rfl (hst t hmem)
      have p3 := EA.put (S := [some (dO bT encT (numV us) (us.take (i + 1))), some (dO true encA (numV al) ((us.take i).map still)), some (.lst (((us.take i).map still).map (endV us src dst)))]) (l := 1) (val := numV al) rfl freshA (by simp; omega)
      rw [na] at p3
      have e3 : (us.take i).map still ++ [still t] = (us.take (i + 1)).map still := by rw [tk]; simp
      rw [e3] at p3
      have p4 : isL (.loc 2) [some (dO bT encT (numV us) (us.take (i + 1))), some (dO true encA (numV al) ((us.take (i + 1)).map still)), some (.lst (((us.take i).map still).map (endV us src dst)))] = true := isL_at rfl
      have p5 := app_at (S := [some (dO bT encT (numV us) (us.take (i + 1))), some (dO true encA (numV al) ((us.take (i + 1)).map still)), some (.lst (((us.take i).map still).map (endV us src dst)))]) (l := 2) (xs := ((us.take i).map still).map (endV us src dst)) (v := .tup [.int (i : Nat), .int (i : Nat)]) rfl (by simp; omega)
      have e5 : ((us.take i).map still).map (endV us src dst) ++ [.tup [.int (i : Nat), .int (i : Nat)]] = ((us.take (i + 1)).map still).map (endV us src dst) := by rw [tk]; simp [ne]
      rw [e5] at p5
      simp only [List.set_cons_zero, List.set_cons_succ] at p1 p3 p5
      refine ⟨_, _, .inl ?_, some (.int (i : Nat)), some (encT t), rfl, rfl⟩
      generalize dD bT encT (fun t => encA (still t)) ts = DS at *
      generalize [some (dO bT encT (numV us) (us.take i)), some (dO true encA (numV al) ((us.take i).map still)), some (.lst (((us.take i).map still).map (endV us src dst)))] = S0 at *
      generalize [some (dO bT encT (numV us) (us.take (i + 1))), some (dO true encA (numV al) ((us.take i).map still)), some (.lst (((us.take i).map still).map (endV us src dst)))] = S1 at *
      generalize [some (dO bT encT (numV us) (us.take (i + 1))), some (dO true encA (numV al) ((us.take (i + 1)).map still)), some (.lst (((us.take i).map still).map (endV us src dst)))] = S2 at *
      generalize [some (dO bT encT (numV us) (us.take (i + 1))), some (dO true encA (numV al) ((us.take (i + 1)).map still)), some (.lst (((us.take (i + 1)).map still).map (endV us src dst)))] = S3 at *
      unfold b1__law_named
      simp_arith [p1, p2, p3, p4, p5])
  refine ⟨k7', k8', ?_⟩
  rw [show List.take (0 + (us.zipIdx 0).length) us = us by simp] at lp
  rw [← lp]
  unfold l1__law_named sFor
  simp_arith [hsrt, enumD_map]
end
section
variable {T A : Type} [DecidableEq T] [DecidableEq A] {encT : T → D} {bT : Bool} {encA encN : A → D}
variable (ET : KE encT bT) (EA : KE encA true)
variable {ts us : List T} {as rs al : List A} {src dst : A → T} {still : T → A} {cf : A → A → A} {fl : List (A × A)}
include ET EA
theorem c1_named {S : Store} (hS : rd (.loc 1) S = some (dD true encA (numV al) (us.map still))) (hen : ∀ a ∈ as, src a ∈ us ∧ dst a ∈ us) (hl : as.length ≤ 4000)
    {a0 a2 a3 a6 a7 a8 a9 a10 a11 a12 a13 a14 a15 a16 a17 a18 a19 : Option D} :
    c1__law_named [a0, some (dD true encA (arrV encT encN src dst) as), a2, a3, some (dD bT encT (numV us) us), some (.loc 1), a6, a7, a8, a9, a10, a11, a12, a13, a14, a15, a16, a17, a18, a19] S =
      .ok ((as.filter fun a => decide (a ∉ us.map still)).map (restV us encA encN src dst)) S := by
  have hb := big
  unfold c1__law_named
  refine comp_of encA _ _ (xs := as) (by simp_arith [iDict, keysOf, dD]) (fun a ha => ⟨_, rfl, ?_, fun _ => ?_⟩) (by omega)
  · have h1 := EA.nin (x := .loc 1) (S := S) hS (fun _ z => by
      have := (hen a ha).1
      rw [List.map_eq_nil_iff] at z
      rw [z] at this
      cases this) a
    simp_arith [wipe, h1]
  · have h1 := EA.idx (x := dD true encA (arrV encT encN src dst) as) (S := S) (val := arrV encT encN src dst) rfl ha
    have h2 := ET.idx (x := dD bT encT (numV us) us) (S := S) (val := numV us) rfl (hen a ha).1
    have h3 := ET.idx (x := dD bT encT (numV us) us) (S := S) (val := numV us) rfl (hen a ha).2
    generalize dD true encA (arrV encT encN src dst) as = D1 at *
    generalize dD bT encT (numV us) us = D2 at *
    simp_arith [wipe, h1, arrV, idx_0, idx_1, idx_2, h2, h3]
    rfl
theorem l2_named {R : List A} (hsrt : ∀ S, sortF [.lst (R.map (restV us encA encN src dst))] S = .ok (rs.map (restV us encA encN src dst)) S) (hal : al = us.map still ++ rs) (nda : al.Nodup) (hl : al.length ≤ 4000)
    {a0 a1 a2 a3 a4 a7 a8 a14 a15 a16 a17 a18 a19 : Option D} {k10 k11 k12 k13 : Option D} :
    ∃ k10' k11' k12' k13', l2__law_named [a0, a1, a2, a3, a4, some (.loc 1), some (.loc 2), a7, a8, some (.lst (R.map (restV us encA encN src dst))), k10, k11, k12, k13, a14, a15, a16, a17, a18, a19] [none, some (dO true encA (numV al) (us.map still)), some (.lst ((us.map still).map (endV us src dst)))] =
      .next [a0, a1, a2, a3, a4, some (.loc 1), some (.loc 2), a7, a8, some (.lst (R.map (restV us encA encN src dst))), k10', k11', k12', k13', a14, a15, a16, a17, a18, a19] [none, some (dO true encA (numV al) al), some (.lst (al.map (endV us src dst)))] := by
  have hb := big
  obtain ⟨ρ', S', lp, k10', k11', k12', k13', rfl, rfl⟩ := loop_inv (body := fun d ρ S => ((gTup [gName 11, gName 12, gName 13, gName 10]) d ρ S).only.seq b2__law_named) (restV us encA encN src dst)
    (fun j ρ S => ∃ k10 k11 k12 k13, ρ = [a0, a1, a2, a3, a4, some (.loc 1), some (.loc 2), a7, a8, some (.lst (R.map (restV us encA encN src dst))), k10, k11, k12, k13, a14, a15, a16, a17, a18, a19] ∧
      S = [none, some (dO true encA (numV al) (us.map still ++ rs.take j)), some (.lst ((us.map still ++ rs.take j).map (endV us src dst)))]) rs 0
    [a0, a1, a2, a3, a4, some (.loc 1), some (.loc 2), a7, a8, some (.lst (R.map (restV us encA encN src dst))), k10, k11, k12, k13, a14, a15, a16, a17, a18, a19] [none, some (dO true encA (numV al) (us.map still)), some (.lst ((us.map still).map (endV us src dst)))]
    ⟨_, _, _, _, rfl, by simp⟩ (by
      rintro j a ρ S hj ⟨k10, k11, k12, k13, rfl, rfl⟩
      rw [Nat.zero_add]
      have hjl := (List.getElem?_eq_some_iff.mp hj).1
      have tk : us.map still ++ rs.take (j + 1) = (us.map still ++ rs.take j) ++ [a] := by rw [List.take_add_one, hj]; simp
      have ln : (us.map still ++ rs.take j).length = us.length + j := by simp; omega
      have tot : al.length = us.length + rs.length := by rw [hal]; simp
      have hals : al[us.length + j]? = some a := by
        rw [hal, List.getElem?_append_right (by simp), List.length_map, Nat.add_sub_cancel_left, hj]
      have na : numV al a = .int ((us.length + j : Nat) : Int) := by unfold numV; rw [idx_at nda hals]
      have fresh : a ∉ us.map still ++ rs.take j := by
        have : (us.map still ++ rs.take (j + 1)).Nodup := by
          rw [hal] at nda
          exact nda.sublist ((List.take_sublist _ _).append_left _)
        rw [tk, List.nodup_append] at this
        intro z
        exact this.2.2 a z a (by simp) rfl
      have p1 := EA.put (S := [none, some (dO true encA (numV al) (us.map still ++ rs.take j)), some (.lst ((us.map still ++ rs.take j).map (endV us src dst)))]) (l := 1) (val := numV al) rfl fresh (by omega)
      rw [← tk, na] at p1
      have p0 : lenD [.loc 2] [none, some (dO true encA (numV al) (us.map still ++ rs.take j)), some (.lst ((us.map still ++ rs.take j).map (endV us src dst)))] = .ok (.int ((us.length + j : Nat) : Int)) [none, some (dO true encA (numV al) (us.map still ++ rs.take j)), some (.lst ((us.map still ++ rs.take j).map (endV us src dst)))] := by
        unfold lenD
        simp only [rd]
        simp
        omega
      have p4 : isL (.loc 2) [none, some (dO true encA (numV al) (us.map still ++ rs.take (j + 1))), some (.lst ((us.map still ++ rs.take j).map (endV us src dst)))] = true := isL_at rfl
      have p5 := app_at (S := [none, some (dO true encA (numV al) (us.map still ++ rs.take (j + 1))), some (.lst ((us.map still ++ rs.take j).map (endV us src dst)))]) (l := 2) (xs := (us.map still ++ rs.take j).map (endV us src dst)) (v := endV us src dst a) rfl (by rw [List.length_map]; omega)
      have e5 : (us.map still ++ rs.take j).map (endV us src dst) ++ [endV us src dst a] = (us.map still ++ rs.take (j + 1)).map (endV us src dst) := by rw [tk, List.map_append (l₁ := us.map still ++ rs.take j)]; rfl
      rw [e5] at p5
      simp only [List.set_cons_zero, List.set_cons_succ] at p1 p5
      refine ⟨_, _, .inl ?_, some (encA a), some (numV us (src a)), some (numV us (dst a)), some (encN a), rfl, rfl⟩
      obtain ⟨q, hq⟩ : ∃ q, q = us.length + j := ⟨_, rfl⟩
      rw [← hq] at p0 p1
      generalize R.map (restV us encA encN src dst) = DS at *
      generalize [none, some (dO true encA (numV al) (us.map still ++ rs.take j)), some (.lst ((us.map still ++ rs.take j).map (endV us src dst)))] = S0 at *
      generalize [none, some (dO true encA (numV al) (us.map still ++ rs.take (j + 1))), some (.lst ((us.map still ++ rs.take j).map (endV us src dst)))] = S1 at *
      generalize [none, some (dO true encA (numV al) (us.map still ++ rs.take (j + 1))), some (.lst ((us.map still ++ rs.take (j + 1)).map (endV us src dst)))] = S2 at *
      unfold endV at p5
      unfold b2__law_named
      simp_arith [restV, p0, p1, p4, p5])
  refine ⟨k10', k11', k12', k13', ?_⟩
  rw [show us.map still ++ rs.take (0 + rs.length) = al by rw [hal]; simp] at lp
  rw [← lp]
  unfold l2__law_named sFor
  simp_arith [hsrt]
omit ET in
theorem c2_named {S : Store} (hl : al.length ≤ 4000) {E : A → D} {a0 a1 a2 a3 a4 a5 a7 a8 a9 a10 a11 a12 a13 a14 a15 a16 a17 a18 a19 : Option D} :
    c2__law_named [a0, a1, a2, a3, a4, a5, some (.lst (al.map E)), a7, a8, a9, a10, a11, a12, a13, a14, a15, a16, a17, a18, a19] S = .ok (al.map fun _ => .int (-1)) S := by
  have hb := big
  unfold c2__law_named
  exact comp_map E _ (by simp_arith []) (fun a ha => ⟨_, rfl, by simp_arith [negD]⟩) (by omega)
/-- the store where the rows are -/
def rowSt (m : Nat) (c : Nat → Nat → Int) : Store := [none, none, none] ++ (List.range m).map fun i => some (.lst ((List.range m).map fun j => .int (c i j)))
omit ET in
theorem c3_named (hl : al.length ≤ 4000) {E : A → D} {a0 a1 a2 a3 a4 a5 a7 a8 a9 a10 a11 a12 a13 a14 a15 a16 a17 a18 a19 : Option D} :
    c3__law_named [a0, a1, a2, a3, a4, a5, some (.lst (al.map E)), a7, a8, a9, a10, a11, a12, a13, a14, a15, a16, a17, a18, a19] [none, none, none] = .ok ((List.range al.length).map fun i => .loc (3 + i)) (rowSt al.length fun _ _ => -1) := by
  have hb := big
  unfold c3__law_named lComp
  have st : ∀ m k : Nat, ([none, none, none] ++ (List.range k).map fun _ => some (Ob.lst (al.map fun _ => D.int (-1)))) ++ [some (Ob.lst (al.map fun _ => D.int (-1)))] = [none, none, none] ++ (List.range (k + 1)).map fun _ => some (Ob.lst (al.map fun _ => D.int (-1))) := by
    intro m k
    rw [List.range_succ, List.map_append, List.append_assoc]
    rfl
  have key := lc_st (vs := [16]) (g := gName 16) (e := eNew c2__law_named) (ρ := [a0, a1, a2, a3, a4, a5, some (.lst (al.map E)), a7, a8, a9, a10, a11, a12, a13, a14, a15, a16, a17, a18, a19]) E (fun i => .loc (3 + i)) (fun k => [none, none, none] ++ (List.range k).map fun _ => some (Ob.lst (al.map fun _ => D.int (-1)))) al 0 [] (by
    intro j a hj
    refine ⟨_, rfl, ?_⟩
    simp only [wipe, List.set_cons_zero, List.set_cons_succ, gName]
    unfold eNew
    rw [c2_named EA hl, Res.bind_ok, st 0]
    simp
    omega) (by simp; omega)
  have it : iOf (eVar 6) [a0, a1, a2, a3, a4, a5, some (.lst (al.map E)), a7, a8, a9, a10, a11, a12, a13, a14, a15, a16, a17, a18, a19] [none, none, none] = .ok (al.map E) [none, none, none] := by simp_arith []
  rw [it, Res.bind_ok]
  have fin : ([none, none, none] ++ (List.range (0 + al.length)).map fun _ => some (Ob.lst (al.map fun _ => D.int (-1)))) = rowSt al.length fun _ _ => -1 := by
    unfold rowSt
    rw [Nat.zero_add]
    congr 2
    funext i
    congr 2
    apply List.ext_getElem
    · simp
    · intro i h1 h2; simp
  rw [fin] at key
  refine Eq.trans key ?_
  simp
end
theorem rowSt_get {m : Nat} {c : Nat → Nat → Int} {i : Nat} (h : i < m) : (rowSt m c)[3 + i]? = some (some (.lst ((List.range m).map fun j => .int (c i j)))) := by
  unfold rowSt
  rw [List.getElem?_append_right (by simp)]
  simp [h]
theorem rowSt_set {m : Nat} {c : Nat → Nat → Int} {i j : Nat} {v : Int} (h : i < m) : (rowSt m c).set (3 + i) (some (.lst (((List.range m).map fun j => D.int (c i j)).set j (.int v)))) = rowSt m fun a b => if a = i ∧ b = j then v else c a b := by
  unfold rowSt
  rw [List.set_append_right _ _ (by simp)]
  congr 1
  apply List.ext_getElem
  · simp
  · intro k h1 h2
    have hk : k < m := by simpa using h2
    rw [List.getElem_set]
    simp only [List.length_cons, List.length_nil, List.getElem_map, List.getElem_range]
    by_cases e : 3 + i - (0 + 1 + 1 + 1) = k
    · have e2 : i = k := by omega
      subst e2
      rw [if_pos e]
      congr 2
      apply List.ext_getElem
      · simp
      · intro b h3 h4
        rw [List.getElem_set]
        by_cases e3 : j = b
        · subst e3; simp
        · have e4 : ¬ b = j := fun z => e3 z.symm
          simp [e3, e4]
    · have e2 : ¬ k = i := by omega
      rw [if_neg e]
      simp [e2]
theorem ixN_nat {n i : Nat} (h : i < n) : ixN n (i : Int) = some i := by
  unfold ixN
  rw [if_pos (Int.natCast_nonneg _), if_pos (by exact_mod_cast h)]
  simp
theorem setL_row {m : Nat} {c : Nat → Nat → Int} {i j : Nat} {v : Int} (h : i < m) (hj : j < m) : setL (.loc (3 + i)) (.int (j : Nat)) (.int v) (rowSt m c) = .ok () (rowSt m fun a b => if a = i ∧ b = j then v else c a b) := by
  unfold setL
  dsimp only
  rw [rowSt_get h]
  dsimp only
  rw [List.length_map, List.length_range, ixN_nat hj]
  dsimp only
  rw [rowSt_set h]
section
variable {T A : Type} [DecidableEq T] [DecidableEq A] {encT : T → D} {bT : Bool} {encA encN : A → D}
variable (EA : KE encA true)
variable {ts us : List T} {as rs al : List A} {src dst : A → T} {still : T → A} {cf : A → A → A} {fl : List (A × A)} (EF : KE (ppD encA) true)
/-- the table by some pairs -/
def tabF {A : Type} [DecidableEq A] (al : List A) (cf : A → A → A) (fl : List (A × A)) (i j : Nat) : Int := match al[i]?, al[j]? with
  | some a, some b => if (a, b) ∈ fl then (al.idxOf (cf a b) : Nat) else -1
  | _, _ => -1
omit EF in
theorem tabF_snoc (nda : al.Nodup) {l : List (A × A)} {a b : A} (ha : a ∈ al) (hb : b ∈ al) : rowSt al.length (tabF al cf (l ++ [(a, b)])) = rowSt al.length fun i j => if i = al.idxOf a ∧ j = al.idxOf b then (al.idxOf (cf a b) : Nat) else tabF al cf l i j := by
  unfold rowSt
  congr 1
  refine List.map_congr_left fun i hi => ?_
  have hi := List.mem_range.mp hi
  congr 2
  refine List.map_congr_left fun j hj => ?_
  have hj := List.mem_range.mp hj
  congr 1
  unfold tabF
  rw [List.getElem?_eq_getElem hi, List.getElem?_eq_getElem hj]
  dsimp only
  have k1 : i = al.idxOf a ↔ al[i] = a := by
    constructor
    · rintro rfl
      exact List.getElem_idxOf hi
    · rintro rfl
      exact (nda.idxOf_getElem i hi).symm
  have k2 : j = al.idxOf b ↔ al[j] = b := by
    constructor
    · rintro rfl
      exact List.getElem_idxOf hj
    · rintro rfl
      exact (nda.idxOf_getElem j hj).symm
  by_cases e : al[i] = a ∧ al[j] = b
  · rw [if_pos (c := (al[i], al[j]) ∈ l ++ [(a, b)]) (by rw [e.1, e.2]; simp), if_pos (c := i = al.idxOf a ∧ j = al.idxOf b) ⟨k1.mpr e.1, k2.mpr e.2⟩, e.1, e.2]
  · rw [if_neg (c := i = al.idxOf a ∧ j = al.idxOf b) (fun z => e ⟨k1.mp z.1, k2.mp z.2⟩)]
    have : ((al[i], al[j]) ∈ l ++ [(a, b)]) ↔ ((al[i], al[j]) ∈ l) := by
      rw [List.mem_append]
      constructor
      · rintro (h | h)
        · exact h
        · simp at h; exact absurd h e
      · exact .inl
    rw [List.getElem?_eq_getElem hi, List.getElem?_eq_getElem hj]
    simp only [this]
include EA EF
theorem l3_named (nda : al.Nodup) (hfl : ∀ p ∈ fl, p.1 ∈ al ∧ p.2 ∈ al ∧ cf p.1 p.2 ∈ al) (hl : al.length ≤ 4000)
    {a0 a1 a2 a4 a6 a7 a8 a9 a10 a11 a12 a13 a15 a16 : Option D} {k17 k18 k19 : Option D} :
    ∃ k17' k18' k19', l3__law_named [a0, a1, a2, some (dD true (ppD encA) (fun p => encA (cf p.1 p.2)) fl), a4, some (dD true encA (numV al) al), a6, a7, a8, a9, a10, a11, a12, a13, some (.lst ((List.range al.length).map fun i => .loc (3 + i))), a15, a16, k17, k18, k19] (rowSt al.length fun _ _ => -1) =
      .next [a0, a1, a2, some (dD true (ppD encA) (fun p => encA (cf p.1 p.2)) fl), a4, some (dD true encA (numV al) al), a6, a7, a8, a9, a10, a11, a12, a13, some (.lst ((List.range al.length).map fun i => .loc (3 + i))), a15, a16, k17', k18', k19'] (rowSt al.length (tabF al cf fl)) := by
  obtain ⟨ρ', S', lp, k17', k18', k19', rfl, rfl⟩ := loop_inv (body := fun d ρ S => ((gTup [gName 17, gName 18]) d ρ S).only.seq b3__law_named) (ppD encA)
    (fun j ρ S => ∃ k17 k18 k19, ρ = [a0, a1, a2, some (dD true (ppD encA) (fun p => encA (cf p.1 p.2)) fl), a4, some (dD true encA (numV al) al), a6, a7, a8, a9, a10, a11, a12, a13, some (.lst ((List.range al.length).map fun i => .loc (3 + i))), a15, a16, k17, k18, k19] ∧
      S = rowSt al.length (tabF al cf (fl.take j))) fl 0
    [a0, a1, a2, some (dD true (ppD encA) (fun p => encA (cf p.1 p.2)) fl), a4, some (dD true encA (numV al) al), a6, a7, a8, a9, a10, a11, a12, a13, some (.lst ((List.range al.length).map fun i => .loc (3 + i))), a15, a16, k17, k18, k19] (rowSt al.length fun _ _ => -1)
    ⟨_, _, _, rfl, by
      congr 1
      funext i j
      unfold tabF
      cases al[i]? <;> cases al[j]? <;> simp⟩ (by
      rintro j ⟨a, b⟩ ρ S hj ⟨k17, k18, k19, rfl, rfl⟩
      rw [Nat.zero_add]
      have hm := List.mem_of_getElem? hj
      obtain ⟨h1, h2, h3⟩ := hfl _ hm
      dsimp only at h1 h2 h3
      have tk : fl.take (j + 1) = fl.take j ++ [(a, b)] := by rw [List.take_add_one, hj]; rfl
      have i1 := List.idxOf_lt_length_of_mem h1
      have i2 := List.idxOf_lt_length_of_mem h2
      have p1 := fun S => EA.idx (x := dD true encA (numV al) al) (S := S) (val := numV al) rfl h1
      have p2 := fun S => EA.idx (x := dD true encA (numV al) al) (S := S) (val := numV al) rfl h2
      have p3 := fun S => EA.idx (x := dD true encA (numV al) al) (S := S) (val := numV al) rfl h3
      have p4 := fun S => EF.idx (x := dD true (ppD encA) (fun p => encA (cf p.1 p.2)) fl) (S := S) (val := fun p => encA (cf p.1 p.2)) rfl hm
      have p5 := fun S => idx_rngL (S := S) (fun i => D.loc (3 + i)) i1
      have p6 := setL_row (c := tabF al cf (fl.take j)) (v := ((al.idxOf (cf a b) : Nat) : Int)) i1 i2
      rw [← tabF_snoc nda h1 h2, ← tk] at p6
      refine ⟨_, _, .inl ?_, some (encA a), some (encA b), some (.loc (3 + al.idxOf a)), rfl, rfl⟩
      generalize dD true (ppD encA) (fun p => encA (cf p.1 p.2)) fl = D1 at *
      generalize dD true encA (numV al) al = D2 at *
      generalize (List.range al.length).map (fun i => D.loc (3 + i)) = D3 at *
      generalize rowSt al.length (tabF al cf (fl.take j)) = S0 at *
      generalize rowSt al.length (tabF al cf (fl.take (j + 1))) = S1 at *
      unfold numV at p1 p2 p3
      unfold ppD at p4 ⊢
      unfold b3__law_named
      simp_arith [p1, p2, p3, p4, p5, p6])
  refine ⟨k17', k18', k19', ?_⟩
  rw [show fl.take (0 + fl.length) = fl by simp] at lp
  rw [← lp]
  unfold l3__law_named sFor
  simp_arith [iDict, keysOf, dD]
omit EA EF in
theorem c4_named {c : Nat → Nat → Int} {m : Nat} (hl : m ≤ 4000) {a0 a1 a2 a3 a4 a5 a6 a7 a8 a9 a10 a11 a12 a13 a15 a16 a17 a18 a19 : Option D} :
    c4__law_named [a0, a1, a2, a3, a4, a5, a6, a7, a8, a9, a10, a11, a12, a13, some (.lst ((List.range m).map fun i => .loc (3 + i))), a15, a16, a17, a18, a19] (rowSt m c) = .ok ((List.range m).map fun i => .tup ((List.range m).map fun j => .int (c i j))) (rowSt m c) := by
  have hb := big
  unfold c4__law_named
  refine comp_map (fun i : Nat => .loc (3 + i)) _ (by simp_arith []) (fun i hi => ⟨_, rfl, ?_⟩) (by simp; omega)
  have hi := List.mem_range.mp hi
  have r := rd_at (rowSt_get (c := c) hi)
  simp_arith [wipe, tupD, r]
end
section
variable {T A : Type} [DecidableEq T] [DecidableEq A] {encT : T → D} {bT : Bool} {encA encN : A → D}
variable {ts us : List T} {as al : List A} {src dst : A → T} {still : T → A} {cf : A → A → A} {fl : List (A × A)}
theorem AC.mem (Z : AC ts as src dst still cf) (n1 : us.Nodup) (h1 : ∀ t, t ∈ us ↔ t ∈ ts) (n2 : al.Nodup) (h2 : ∀ a, a ∈ al ↔ a ∈ as) : AC us al src dst still cf where
  tnd := n1
  nd := n2
  st := fun t h => by rw [h2]; exact Z.st t ((h1 t).mp h)
  en := fun a h => by rw [h1, h1]; exact Z.en a ((h2 a).mp h)
  cl := fun a ha b hb e => by rw [h2]; exact Z.cl a ((h2 a).mp ha) b ((h2 b).mp hb) e
  uL := fun a h => Z.uL a ((h2 a).mp h)
  uR := fun a h => Z.uR a ((h2 a).mp h)
  asc := fun a ha b hb c hc => Z.asc a ((h2 a).mp ha) b ((h2 b).mp hb) c ((h2 c).mp hc)
theorem namW_D (hfl : ∀ a b, (a, b) ∈ fl ↔ a ∈ al ∧ b ∈ al ∧ dst a = src b) :
    D.tup [.int (us.length : Nat), .tup (al.map (endV us src dst)), .tup ((List.range al.length).map fun i => .tup ((List.range al.length).map fun j => .int (tabF al cf fl i j)))] = (namW us al src dst cf).D := by
  have m1 : al.map (endV us src dst) = (List.range al.length).map (namW us al src dst cf).eD := by
    apply List.ext_getElem
    · simp
    · intro i h1 h2
      have h : i < al.length := by simpa using h1
      simp [Wd.eD, namW, endV, numV, h]
  have m2 : ((List.range al.length).map fun i => D.tup ((List.range al.length).map fun j => .int (tabF al cf fl i j))) = (List.range al.length).map (namW us al src dst cf).rD := by
    refine List.map_congr_left fun i hi => ?_
    have hi := List.mem_range.mp hi
    unfold Wd.rD
    congr 1
    refine List.map_congr_left fun j hj => ?_
    have hj := List.mem_range.mp hj
    congr 1
    unfold tabF
    show _ = (namW us al src dst cf).c i j
    unfold namW
    dsimp only
    rw [List.getElem?_eq_getElem hi, List.getElem?_eq_getElem hj]
    dsimp only
    have : ((al[i], al[j]) ∈ fl) ↔ dst al[i] = src al[j] := by
      rw [hfl]
      exact ⟨fun h => h.2.2, fun h => ⟨List.getElem_mem hi, List.getElem_mem hj, h⟩⟩
    simp only [this]
  rw [m1, m2]
  rfl
theorem dD_pure {α : Type} {enc val : α → D} {b : Bool} {ks : List α} (h1 : ∀ a, (enc a).pure = true) (h2 : ∀ a, (val a).pure = true) : (dD b enc val ks).pure = true := by
  unfold dD
  simp only [D.pure, Bool.and_eq_true]
  exact ⟨pureAll_map fun x _ => h1 x, pureAll_map fun x _ => h2 x⟩
/-- the numbered world of a call of _law_named -/
theorem named_ok (ET : KE encT bT) (EA : KE encA true) (EF : KE (ppD encA) true) (Z : AC ts as src dst still cf) (hT : sortB (ts.map encT) = true)
    (hR : ∀ us : List T, sortB ((as.filter fun a => decide (a ∉ us.map still)).map (restV us encA encN src dst)) = true) (hl : as.length ≤ 4000)
    (hfl : ∀ a b, (a, b) ∈ fl ↔ a ∈ as ∧ b ∈ as ∧ dst a = src b)
    (pT : ∀ t, (encT t).pure = true) (pA : ∀ a, (encA a).pure = true) (pN : ∀ a, (encN a).pure = true) :
    ∃ (us : List T) (al : List A), us.Perm ts ∧ al.Nodup ∧ (∀ a, a ∈ al ↔ a ∈ as) ∧ IsCat (namW us al src dst cf) ∧
      ∀ S, callP f__law_named [.lst (ts.map encT), dD true encA (arrV encT encN src dst) as, dD bT encT (fun t => encA (still t)) ts, dD true (ppD encA) (fun p => encA (cf p.1 p.2)) fl] S =
        .ok (.tup [(namW us al src dst cf).D, dD bT encT (numV us) us, dD true encA (numV al) al]) S := by
  have hb := big
  obtain ⟨us, pu, s1⟩ := sort_enc encT ts hT
  obtain ⟨rs, pr, s2⟩ := sort_enc (restV us encA encN src dst) _ (hR us)
  have undp : us.Nodup := pu.nodup_iff.mpr Z.tnd
  have smem : ∀ t ∈ us, still t ∈ as := fun t ht => (Z.st t (pu.mem_iff.mp ht)).1
  have sinj : ∀ t ∈ us, ∀ t' ∈ us, still t = still t' → t = t' := fun t ht t' ht' e => by
    have h1 := (Z.st t (pu.mem_iff.mp ht)).2.1
    have h2 := (Z.st t' (pu.mem_iff.mp ht')).2.1
    rw [← h1, e, h2]
  have snd : (us.map still).Nodup := by
    rw [List.Nodup, List.pairwise_map]
    exact undp.imp_of_mem fun {a b} ha hb ne e => ne (sinj a ha b hb e)
  have mem : ∀ a, a ∈ us.map still ++ rs ↔ a ∈ as := fun a => by
    rw [List.mem_append, pr.mem_iff, List.mem_filter, decide_eq_true_eq]
    constructor
    · rintro (h | h)
      · obtain ⟨t, ht, rfl⟩ := List.mem_map.mp h
        exact smem t ht
      · exact h.1
    · intro h
      by_cases e : a ∈ us.map still
      · exact .inl e
      · exact .inr ⟨h, e⟩
  have nd : (us.map still ++ rs).Nodup := by
    rw [List.nodup_append]
    refine ⟨snd, pr.nodup_iff.mpr (Z.nd.filter _), fun a ha b hb e => ?_⟩
    subst e
    have := (List.mem_filter.mp (pr.mem_iff.mp hb)).2
    exact (of_decide_eq_true this) ha
  have len : (us.map still ++ rs).length ≤ 4000 := Nat.le_trans (nd.length_le_of_subset fun a ha => (mem a).mp ha) hl
  have Z2 : AC us (us.map still ++ rs) src dst still cf := Z.mem undp (fun t => pu.mem_iff) nd mem
  have H : ∀ (i : Nat) (t : T), us[i]? = some t → (us.map still ++ rs)[i]? = some (still t) := fun i t h => by
    have hi := (List.getElem?_eq_some_iff.mp h).1
    rw [List.getElem?_append_left (by simpa using hi), List.getElem?_map, h]
    rfl
  generalize hal : us.map still ++ rs = al at *
  refine ⟨us, al, pu, nd, mem, namW_cat Z2 H, fun S => ?_⟩
  have hfl2 : ∀ a b, (a, b) ∈ fl ↔ a ∈ al ∧ b ∈ al ∧ dst a = src b := fun a b => by rw [hfl, mem, mem]
  obtain ⟨k7, k8, e1⟩ := l1_named ET EA s1 undp hal.symm nd (fun t ht => (Z.st t (pu.mem_iff.mp ht)).2) (fun t ht => pu.mem_iff.mp ht) len (a1 := some (dD true encA (arrV encT encN src dst) as)) (a3 := some (dD true (ppD encA) (fun p => encA (cf p.1 p.2)) fl))
    (a9 := none) (a10 := none) (a11 := none) (a12 := none) (a13 := none) (a14 := none) (a15 := none) (a16 := none) (a17 := none) (a18 := none) (a19 := none) (k7 := none) (k8 := none)
  have f1 : frz (.loc 0) [some (dO bT encT (numV us) us), some (dO true encA (numV al) (us.map still)), some (.lst ((us.map still).map (endV us src dst)))] = .ok (dD bT encT (numV us) us) [none, some (dO true encA (numV al) (us.map still)), some (.lst ((us.map still).map (endV us src dst)))] := frz_atD rfl
  have e2 := c1_named (us := us) (as := as) (al := al) (src := src) (dst := dst) (still := still) (encN := encN) ET EA (S := [none, some (dO true encA (numV al) (us.map still)), some (.lst ((us.map still).map (endV us src dst)))]) rfl (fun a ha => by
    have := Z.en a ha
    exact ⟨pu.mem_iff.mpr this.1, pu.mem_iff.mpr this.2⟩) hl
    (a0 := some (.lst (ts.map encT))) (a2 := some (dD bT encT (fun t => encA (still t)) ts)) (a3 := some (dD true (ppD encA) (fun p => encA (cf p.1 p.2)) fl)) (a6 := some (.loc 2)) (a7 := k7) (a8 := k8) (a9 := none) (a10 := none) (a11 := none) (a12 := none) (a13 := none) (a14 := none) (a15 := none) (a16 := none) (a17 := none) (a18 := none) (a19 := none)
  obtain ⟨k10, k11, k12, k13, e3⟩ := l2_named (us := us) (rs := rs) (al := al) (src := src) (dst := dst) (still := still) (encN := encN) ET EA s2 hal.symm nd len (a0 := some (.lst (ts.map encT))) (a1 := some (dD true encA (arrV encT encN src dst) as)) (a2 := some (dD bT encT (fun t => encA (still t)) ts)) (a3 := some (dD true (ppD encA) (fun p => encA (cf p.1 p.2)) fl)) (a4 := some (dD bT encT (numV us) us)) (a7 := k7) (a8 := k8)
    (a14 := none) (a15 := none) (a16 := none) (a17 := none) (a18 := none) (a19 := none) (k10 := none) (k11 := none) (k12 := none) (k13 := none)
  have f2 : frz (.loc 1) [none, some (dO true encA (numV al) al), some (.lst (al.map (endV us src dst)))] = .ok (dD true encA (numV al) al) [none, none, some (.lst (al.map (endV us src dst)))] := frz_atD rfl
  have f3 : frz (.loc 2) [none, none, some (.lst (al.map (endV us src dst)))] = .ok (.lst (al.map (endV us src dst))) [none, none, none] := frz_at rfl
  have e4 := c3_named (al := al) EA len (E := endV us src dst) (a0 := some (.lst (ts.map encT))) (a1 := some (dD true encA (arrV encT encN src dst) as)) (a2 := some (dD bT encT (fun t => encA (still t)) ts)) (a3 := some (dD true (ppD encA) (fun p => encA (cf p.1 p.2)) fl)) (a4 := some (dD bT encT (numV us) us)) (a5 := some (dD true encA (numV al) al)) (a7 := k7) (a8 := k8)
    (a9 := some (.lst ((as.filter fun a => decide (a ∉ us.map still)).map (restV us encA encN src dst)))) (a10 := k10) (a11 := k11) (a12 := k12) (a13 := k13) (a14 := none) (a15 := none) (a16 := none) (a17 := none) (a18 := none) (a19 := none)
  obtain ⟨k17, k18, k19, e5⟩ := l3_named (al := al) (cf := cf) (fl := fl) EA EF nd (fun p hp => by
    obtain ⟨h1, h2, h3⟩ := (hfl2 p.1 p.2).mp hp
    exact ⟨h1, h2, (Z2.cl _ h1 _ h2 h3).1⟩) len (a0 := some (.lst (ts.map encT))) (a1 := some (dD true encA (arrV encT encN src dst) as)) (a2 := some (dD bT encT (fun t => encA (still t)) ts)) (a4 := some (dD bT encT (numV us) us)) (a6 := some (.lst (al.map (endV us src dst)))) (a7 := k7) (a8 := k8)
    (a9 := some (.lst ((as.filter fun a => decide (a ∉ us.map still)).map (restV us encA encN src dst)))) (a10 := k10) (a11 := k11) (a12 := k12) (a13 := k13) (a15 := none) (a16 := none) (k17 := none) (k18 := none) (k19 := none)
  have e6 := c4_named (c := tabF al cf fl) len (a0 := some (.lst (ts.map encT))) (a1 := some (dD true encA (arrV encT encN src dst) as)) (a2 := some (dD bT encT (fun t => encA (still t)) ts)) (a3 := some (dD true (ppD encA) (fun p => encA (cf p.1 p.2)) fl)) (a4 := some (dD bT encT (numV us) us)) (a5 := some (dD true encA (numV al) al)) (a6 := some (.lst (al.map (endV us src dst)))) (a7 := k7) (a8 := k8)
    (a9 := some (.lst ((as.filter fun a => decide (a ∉ us.map still)).map (restV us encA encN src dst)))) (a10 := k10) (a11 := k11) (a12 := k12) (a13 := k13) (a15 := none) (a16 := none) (a17 := k17) (a18 := k18) (a19 := k19)
  have e7 : ∀ S, lenA [dD bT encT (numV us) us] S = .ok (.int (us.length : Nat)) S := fun S => by
    have : us.length ≤ al.length := by rw [← hal]; simp
    unfold lenA dD
    simp only [rd]
    rw [if_pos (by simp; omega), List.length_map]
  have e8 := namW_D (us := us) (cf := cf) hfl2
  refine callP_ok (S1 := rowSt al.length (tabF al cf fl)) ?_ ?_ ?_
  · rw [← e8]
    generalize (as.filter fun a => decide (a ∉ us.map still)).map (restV us encA encN src dst) = D9 at *
    generalize dD true encA (arrV encT encN src dst) as = D1 at *
    generalize dD bT encT (fun t => encA (still t)) ts = D2 at *
    generalize dD true (ppD encA) (fun p => encA (cf p.1 p.2)) fl = D3 at *
    generalize dD bT encT (numV us) us = D4 at *
    generalize dD true encA (numV al) al = D5 at *
    generalize [some (dO bT encT (numV us) us), some (dO true encA (numV al) (us.map still)), some (.lst ((us.map still).map (endV us src dst)))] = S1 at *
    generalize [none, some (dO true encA (numV al) (us.map still)), some (.lst ((us.map still).map (endV us src dst)))] = S2 at *
    generalize [none, some (dO true encA (numV al) al), some (.lst (al.map (endV us src dst)))] = S3 at *
    generalize [none, none, some (Ob.lst (al.map (endV us src dst)))] = S4 at *
    simp_arith [f__law_named, m__law_named, eDict, e1, f1, e2, e3, f2, f3, e4, e5, e6, e7, tupD, rd]
  · have q : D.pureAll (ts.map encT) = true := pureAll_map fun x _ => pT x
    have q1 : (dD true encA (arrV encT encN src dst) as).pure = true := dD_pure pA fun a => by simp [arrV, D.pure, D.pureAll, pT, pN]
    have q2 : (dD bT encT (fun t => encA (still t)) ts).pure = true := dD_pure pT fun a => pA _
    have q3 : (dD true (ppD encA) (fun p => encA (cf p.1 p.2)) fl).pure = true := dD_pure (fun p => by simp [ppD, D.pure, D.pureAll, pA]) fun p => pA _
    simp [D.pureAll, D.pure, q, q1, q2, q3]
  · have q4 : (dD bT encT (numV us) us).pure = true := dD_pure pT fun a => rfl
    have q5 : (dD true encA (numV al) al).pure = true := dD_pure pA fun a => rfl
    simp [D.pure, D.pureAll, wd_pure, q4, q5]
end
end Mi
set_option linter.all false
set_option maxRecDepth 100000
namespace Mi
open PySem L2 L_TE
local macro_rules | `(tactic| simp_arith [$ls,*]) => `(tactic| simp [runF, sSeq, sIf, sAsg, sRet, sRetN, sNext, sDrop, sBrk, sCont, sPar, gName, gTup, gSeq, gSub, eOp1, eOp2, eVar, eC, eBlt, lBlt, lOp1, lOp2, sl3, aOne, aCons, aNil, eTup, lOf, eFrz, eNew, eIf, eB, tB, tNot, tAnd, tOr, tOp2, tChain, eAnd, eOr, eCall, eMth, Res.toS, SRes.seq, SRes.only, Res.bind, iOf, items, iRange1, iRange2, iEnum, enumOf, range1, range2, sFrz, b2, i2, i2c, gtD, ltD, leD, geD, subD, mulD, modD, divD, intD, isN, notN, D.isNon, negD, sizeLine_eq, $ls,*])
/-! ### the sum of two worlds -/
abbrev P2 := Nat × Nat
theorem key_pD (q : P2) : (pD q).key = some (.tup [.num (q.1 : Nat), .num (q.2 : Nat)]) := by
  unfold pD D.key
  simp [D.keyN, D.keyAllN]
theorem ke_pD : KE pD true where
  inj := fun a c h => by
    rw [key_pD, key_pD] at h
    simp at h
    ext
    · omega
    · omega
  tup := fun _ a => ⟨⟨_, rfl⟩, by rw [key_pD]; rfl⟩
  sim := fun h => by cases h
theorem key_ppD (q : P2 × P2) : (ppD pD q).key = some (.tup [.tup [.num (q.1.1 : Nat), .num (q.1.2 : Nat)], .tup [.num (q.2.1 : Nat), .num (q.2.2 : Nat)]]) := by
  unfold ppD pD D.key
  simp [D.keyN, D.keyAllN]
theorem ke_ppD : KE (ppD pD) true where
  inj := fun a c h => by
    rw [key_ppD, key_ppD] at h
    simp at h
    obtain ⟨⟨h1, h2⟩, h3, h4⟩ := h
    ext <;> omega
  tup := fun _ a => ⟨⟨_, rfl⟩, by rw [key_ppD]; rfl⟩
  sim := fun h => by cases h
theorem nd_snoc' {α : Type} {l : List α} {a : α} (n : l.Nodup) (h : a ∉ l) : (l ++ [a]).Nodup := by
  rw [List.nodup_append]
  refine ⟨n, by simp, fun x hx y hy e => ?_⟩
  rw [List.mem_singleton.mp hy] at e
  exact h (e ▸ hx)
def sideW (W1 W2 : Wd) (s : Nat) : Wd := if s = 0 then W1 else W2
section
variable (V : Nat → Wd)
def sSrc (a : P2) : P2 := (a.1, (V a.1).s a.2)
def sDst (a : P2) : P2 := (a.1, (V a.1).t a.2)
def sCf (a b : P2) : P2 := (a.1, ((V a.1).c a.2 b.2).toNat)
def sArr : P2 → D := arrV pD pD (sSrc V) (sDst V)
def sFol (p : P2 × P2) : D := pD (sCf V p.1 p.2)
def rowP (s n : Nat) : List P2 := (List.range n).map fun x => (s, x)
def folR (s f : Nat) : List (P2 × P2) := ((List.range (V s).m).filter fun g => decide (0 ≤ (V s).c f g)).map fun g => ((s, f), (s, g))
def folP (s k : Nat) : List (P2 × P2) := (List.range k).flatMap fun f => folR V s f
def sSt (th ar st : List P2) (fo : List (P2 × P2)) : Store := [some (.lst (th.map pD)), some (dO true pD (sArr V) ar), some (dO true pD pD st), some (dO true (ppD pD) (sFol V) fo)]
theorem rowP_succ (s n : Nat) : rowP s (n + 1) = rowP s n ++ [(s, n)] := by
  unfold rowP
  rw [List.range_succ, List.map_append]
  rfl
theorem folP_succ (s k : Nat) : folP V s (k + 1) = folP V s k ++ folR V s k := by
  unfold folP
  rw [List.range_succ, List.flatMap_append]
  simp
variable {V} {s : Nat}
theorem l1_sum {th ar st : List P2} {fo : List (P2 × P2)} (h1 : ∀ p ∈ st, p.1 ≠ s) (hn : (V s).n ≤ 4000) (ht : th.length ≤ 4000) (hst : st.length ≤ 4000) {o1 o2 x8 f9 e10 g11 : Option D} :
    ∃ x8', l1__law_sum [o1, o2, some (.loc 0), some (.loc 1), some (.loc 2), some (.loc 3), some (.int (s : Nat)), some (V s).D, x8, f9, e10, g11] (sSt V th ar st fo) =
      .next [o1, o2, some (.loc 0), some (.loc 1), some (.loc 2), some (.loc 3), some (.int (s : Nat)), some (V s).D, x8', f9, e10, g11] (sSt V (th ++ rowP s (V s).n) ar (st ++ rowP s (V s).n) fo) := by
  have hb := big
  obtain ⟨ρ', S', lp, x8', rfl, rfl⟩ := loop_inv (body := fun d ρ S => ((gName 8) d ρ S).only.seq b1__law_sum) (fun i : Nat => D.int (i : Nat))
    (fun j ρ S => ∃ x8, ρ = [o1, o2, some (.loc 0), some (.loc 1), some (.loc 2), some (.loc 3), some (.int (s : Nat)), some (V s).D, x8, f9, e10, g11] ∧ S = sSt V (th ++ rowP s j) ar (st ++ rowP s j) fo) (List.range (V s).n) 0
    [o1, o2, some (.loc 0), some (.loc 1), some (.loc 2), some (.loc 3), some (.int (s : Nat)), some (V s).D, x8, f9, e10, g11] (sSt V th ar st fo) ⟨_, rfl, by simp [rowP]⟩ (by
      rintro j x ρ S hj ⟨x8, rfl, rfl⟩
      have hjl := (List.getElem?_eq_some_iff.mp hj).1
      rw [List.length_range] at hjl
      have hy : x = j := by simpa [hjl] using hj.symm
      subst hy
      rw [Nat.zero_add]
      have fresh : (s, x) ∉ st ++ rowP s x := by
        rw [List.mem_append]
        rintro (h | h)
        · exact h1 _ h rfl
        · unfold rowP at h
          obtain ⟨y, hy, e⟩ := List.mem_map.mp h
          have := List.mem_range.mp hy
          cases e
          omega
      have lr : (rowP s x).length = x := by unfold rowP; simp
      have q1 : isL (.loc 0) (sSt V (th ++ rowP s x) ar (st ++ rowP s x) fo) = true := isL_at rfl
      have q2 := app_at (S := sSt V (th ++ rowP s x) ar (st ++ rowP s x) fo) (l := 0) (v := pD (s, x)) rfl (by rw [List.length_map, List.length_append, lr]; omega)
      have e2 : (th ++ rowP s x).map pD ++ [pD (s, x)] = (th ++ rowP s (x + 1)).map pD := by rw [rowP_succ]; simp
      rw [e2] at q2
      have q3 := ke_pD.put (S := sSt V (th ++ rowP s (x + 1)) ar (st ++ rowP s x) fo) (l := 2) (val := pD) rfl fresh (by rw [List.length_append, lr]; omega)
      rw [List.append_assoc, ← rowP_succ] at q3
      refine ⟨_, _, .inl ?_, some (.int (x : Nat)), rfl, rfl⟩
      have q2 : appD (.loc 0) [pD (s, x)] (sSt V (th ++ rowP s x) ar (st ++ rowP s x) fo) = .ok .non (sSt V (th ++ rowP s (x + 1)) ar (st ++ rowP s x) fo) := q2
      have q3 : putD (.loc 2) (pD (s, x)) (pD (s, x)) (sSt V (th ++ rowP s (x + 1)) ar (st ++ rowP s x) fo) = .ok () (sSt V (th ++ rowP s (x + 1)) ar (st ++ rowP s (x + 1)) fo) := q3
      generalize (V s).D = WD at *
      generalize sSt V (th ++ rowP s x) ar (st ++ rowP s x) fo = S0 at *
      generalize sSt V (th ++ rowP s (x + 1)) ar (st ++ rowP s x) fo = S1 at *
      generalize sSt V (th ++ rowP s (x + 1)) ar (st ++ rowP s (x + 1)) fo = S2 at *
      unfold pD at q2 q3
      unfold b1__law_sum
      simp_arith [q1, q2, q3])
  rw [List.length_range, Nat.zero_add] at lp
  refine ⟨x8', ?_⟩
  rw [← lp]
  unfold l1__law_sum sFor
  rw [walk_n (S1 := sSt V th ar st fo) (m := (V s).n) (by omega) (by simp_arith [wN])]
  rfl
theorem l2_sum {th ar st : List P2} {fo : List (P2 × P2)} {f : Nat} (hf : f < (V s).m) (h1 : ∀ p ∈ fo, p.1 ≠ (s, f)) (hm : (V s).m ≤ 40) (hfo : fo.length ≤ 8000) {o1 o2 x8 e10 g11 : Option D} :
    ∃ g11', l2__law_sum [o1, o2, some (.loc 0), some (.loc 1), some (.loc 2), some (.loc 3), some (.int (s : Nat)), some (V s).D, x8, some (.int (f : Nat)), e10, g11] (sSt V th ar st fo) =
      .next [o1, o2, some (.loc 0), some (.loc 1), some (.loc 2), some (.loc 3), some (.int (s : Nat)), some (V s).D, x8, some (.int (f : Nat)), e10, g11'] (sSt V th ar st (fo ++ folR V s f)) := by
  have hb := big
  let F : Nat → List (P2 × P2) := fun k => ((List.range k).filter fun g => decide (0 ≤ (V s).c f g)).map fun g => ((s, f), (s, g))
  obtain ⟨ρ', S', lp, g11', rfl, rfl⟩ := loop_inv (body := fun d ρ S => ((gName 11) d ρ S).only.seq b2__law_sum) (fun i : Nat => D.int (i : Nat))
    (fun j ρ S => ∃ g11, ρ = [o1, o2, some (.loc 0), some (.loc 1), some (.loc 2), some (.loc 3), some (.int (s : Nat)), some (V s).D, x8, some (.int (f : Nat)), e10, g11] ∧ S = sSt V th ar st (fo ++ F j)) (List.range (V s).m) 0
    [o1, o2, some (.loc 0), some (.loc 1), some (.loc 2), some (.loc 3), some (.int (s : Nat)), some (V s).D, x8, some (.int (f : Nat)), e10, g11] (sSt V th ar st fo) ⟨_, rfl, by simp [F]⟩ (by
      rintro j g ρ S hj ⟨g11, rfl, rfl⟩
      have hjl := (List.getElem?_eq_some_iff.mp hj).1
      rw [List.length_range] at hjl
      have hy : g = j := by simpa [hjl] using hj.symm
      subst hy
      rw [Nat.zero_add]
      have lF : (F g).length ≤ g := by
        show (((List.range g).filter _).map _).length ≤ g
        rw [List.length_map]
        exact Nat.le_trans (List.length_filter_le _ _) (by simp)
      by_cases hc : 0 ≤ (V s).c f g
      · have fs : F (g + 1) = F g ++ [((s, f), (s, g))] := by
          show ((List.range (g + 1)).filter _).map _ = _
          rw [List.range_succ, List.filter_append, List.map_append]
          simp [hc, F]
        have fresh : ((s, f), (s, g)) ∉ fo ++ F g := by
          rw [List.mem_append]
          rintro (h | h)
          · exact h1 _ h rfl
          · obtain ⟨y, hy, e⟩ := List.mem_map.mp h
            have := List.mem_range.mp (List.mem_filter.mp hy).1
            cases e
            omega
        have q3 := ke_ppD.put (S := sSt V th ar st (fo ++ F g)) (l := 3) (val := sFol V) rfl fresh (by rw [List.length_append]; omega)
        rw [List.append_assoc, ← fs] at q3
        have q3 : putD (.loc 3) (ppD pD ((s, f), (s, g))) (sFol V ((s, f), (s, g))) (sSt V th ar st (fo ++ F g)) = .ok () (sSt V th ar st (fo ++ F (g + 1))) := q3
        have ev1 : sFol V ((s, f), (s, g)) = .tup [.int (s : Nat), .int ((V s).c f g)] := by
          unfold sFol sCf pD
          dsimp only
          rw [Int.toNat_of_nonneg hc]
        rw [ev1] at q3
        refine ⟨_, _, .inl ?_, some (.int (g : Nat)), rfl, rfl⟩
        have g1 := fun S => wTab (V s) S
        have g2 := fun S => idx_rng (S := S) (V s).rD hf
        have g3 := fun S => wRow (V s) f hjl S
        generalize (V s).D = WD at *
        generalize (V s).rD = RD at *
        generalize sSt V th ar st (fo ++ F g) = S0 at *
        generalize sSt V th ar st (fo ++ F (g + 1)) = S1 at *
        unfold ppD pD at q3
        unfold b2__law_sum
        simp_arith [g1, g2, g3, hc, q3]
      · have fs : F (g + 1) = F g := by
          show ((List.range (g + 1)).filter _).map _ = _
          rw [List.range_succ, List.filter_append, List.map_append]
          simp [hc, F]
        refine ⟨_, _, .inl ?_, some (.int (g : Nat)), rfl, rfl⟩
        rw [fs]
        have g1 := fun S => wTab (V s) S
        have g2 := fun S => idx_rng (S := S) (V s).rD hf
        have g3 := fun S => wRow (V s) f hjl S
        generalize (V s).D = WD at *
        generalize (V s).rD = RD at *
        generalize sSt V th ar st (fo ++ F g) = S0 at *
        unfold b2__law_sum
        simp_arith [g1, g2, g3, hc])
  rw [List.length_range, Nat.zero_add] at lp
  refine ⟨g11', ?_⟩
  have e : F (V s).m = folR V s f := rfl
  rw [← e, ← lp]
  unfold l2__law_sum sFor
  rw [walk_n (S1 := sSt V th ar st fo) (m := (V s).m) (by omega) (by simp_arith [wEnds, len_tup])]
  rfl
theorem folR_len (f : Nat) : (folR V s f).length ≤ (V s).m := by
  unfold folR
  rw [List.length_map]
  exact Nat.le_trans (List.length_filter_le _ _) (by simp)
theorem folP_len : ∀ k, (folP V s k).length ≤ k * (V s).m
  | 0 => by simp [folP]
  | k + 1 => by
    have h1 := folP_len k
    have h2 := folR_len (V := V) (s := s) k
    rw [folP_succ, List.length_append, Nat.add_mul]
    omega
theorem l3_sum {th ar st : List P2} {fo : List (P2 × P2)} (h1 : ∀ p ∈ fo, p.1.1 ≠ s) (h2 : ∀ p ∈ ar, p.1 ≠ s) (hm : (V s).m ≤ 40) (hfo : fo.length ≤ 4000) (har : ar.length ≤ 4000) {o1 o2 x8 f9 e10 g11 : Option D} :
    ∃ f9' e10' g11', l3__law_sum [o1, o2, some (.loc 0), some (.loc 1), some (.loc 2), some (.loc 3), some (.int (s : Nat)), some (V s).D, x8, f9, e10, g11] (sSt V th ar st fo) =
      .next [o1, o2, some (.loc 0), some (.loc 1), some (.loc 2), some (.loc 3), some (.int (s : Nat)), some (V s).D, x8, f9', e10', g11'] (sSt V th (ar ++ rowP s (V s).m) st (fo ++ folP V s (V s).m)) := by
  have hb := big
  obtain ⟨ρ', S', lp, f9', e10', g11', rfl, rfl⟩ := loop_inv (body := fun d ρ S => ((gTup [gName 9, gName 10]) d ρ S).only.seq b3__law_sum) (fun f : Nat => .tup [.int (f : Nat), (V s).eD f])
    (fun j ρ S => ∃ f9 e10 g11, ρ = [o1, o2, some (.loc 0), some (.loc 1), some (.loc 2), some (.loc 3), some (.int (s : Nat)), some (V s).D, x8, f9, e10, g11] ∧ S = sSt V th (ar ++ rowP s j) st (fo ++ folP V s j)) (List.range (V s).m) 0
    [o1, o2, some (.loc 0), some (.loc 1), some (.loc 2), some (.loc 3), some (.int (s : Nat)), some (V s).D, x8, f9, e10, g11] (sSt V th ar st fo) ⟨_, _, _, rfl, by simp [rowP, folP]⟩ (by
      rintro j f ρ S hj ⟨f9, e10, g11, rfl, rfl⟩
      have hjl := (List.getElem?_eq_some_iff.mp hj).1
      rw [List.length_range] at hjl
      have hy : f = j := by simpa [hjl] using hj.symm
      subst hy
      rw [Nat.zero_add]
      have lr : (rowP s f).length = f := by unfold rowP; simp
      have lf := folP_len (V := V) (s := s) f
      have lf2 : f * (V s).m ≤ 40 * 40 := Nat.mul_le_mul (by omega) hm
      have fresh : (s, f) ∉ ar ++ rowP s f := by
        rw [List.mem_append]
        rintro (h | h)
        · exact h2 _ h rfl
        · unfold rowP at h
          obtain ⟨y, hy, e⟩ := List.mem_map.mp h
          have := List.mem_range.mp hy
          cases e
          omega
      have q1 := ke_pD.put (S := sSt V th (ar ++ rowP s f) st (fo ++ folP V s f)) (l := 1) (val := sArr V) rfl fresh (by rw [List.length_append, lr]; omega)
      rw [List.append_assoc, ← rowP_succ] at q1
      have q1 : putD (.loc 1) (pD (s, f)) (sArr V (s, f)) (sSt V th (ar ++ rowP s f) st (fo ++ folP V s f)) = .ok () (sSt V th (ar ++ rowP s (f + 1)) st (fo ++ folP V s f)) := q1
      obtain ⟨g11', q2⟩ := l2_sum (V := V) (s := s) (th := th) (ar := ar ++ rowP s (f + 1)) (st := st) (fo := fo ++ folP V s f) hjl (by
        intro p hp
        rcases List.mem_append.mp hp with hp | hp
        · intro z
          exact h1 p hp (by rw [z])
        · unfold folP folR at hp
          simp only [List.mem_flatMap, List.mem_map, List.mem_filter, List.mem_range] at hp
          obtain ⟨a, ha, b, _, rfl⟩ := hp
          intro z
          cases z
          omega) hm (by rw [List.length_append]; omega) (o1 := o1) (o2 := o2) (x8 := x8) (e10 := some ((V s).eD f)) (g11 := g11)
      rw [List.append_assoc, ← folP_succ] at q2
      refine ⟨_, _, .inl ?_, some (.int (f : Nat)), some ((V s).eD f), g11', rfl, rfl⟩
      have ea : sArr V (s, f) = .tup [.tup [.int (s : Nat), .int ((V s).s f : Nat)], .tup [.int (s : Nat), .int ((V s).t f : Nat)], .tup [.int (s : Nat), .int (f : Nat)]] := rfl
      rw [ea] at q1
      have g1 := fun S => wSrc (V s) f S
      have g2 := fun S => wDst (V s) f S
      generalize (V s).D = WD at *
      generalize (V s).eD f = RD at *
      generalize sSt V th (ar ++ rowP s f) st (fo ++ folP V s f) = S0 at *
      generalize sSt V th (ar ++ rowP s (f + 1)) st (fo ++ folP V s f) = S1 at *
      generalize sSt V th (ar ++ rowP s (f + 1)) st (fo ++ folP V s (f + 1)) = S2 at *
      unfold pD at q1
      unfold b3__law_sum
      simp_arith [g1, g2, q1, q2])
  rw [List.length_range, Nat.zero_add] at lp
  refine ⟨f9', e10', g11', ?_⟩
  rw [← lp]
  unfold l3__law_sum sFor
  have it : iEnum (eOp2 idxS (eVar 7) (eC (.int 1))) [o1, o2, some (.loc 0), some (.loc 1), some (.loc 2), some (.loc 3), some (.int (s : Nat)), some (V s).D, x8, f9, e10, g11] (sSt V th ar st fo) = .ok ((List.range (V s).m).map fun f : Nat => .tup [.int (f : Nat), (V s).eD f]) (sSt V th ar st fo) := by
    simp_arith [wEnds]
    rw [enumD_range]
  rw [it]
  rfl
theorem b4_sum {th ar st : List P2} {fo : List (P2 × P2)} (h0 : ∀ p ∈ st, p.1 ≠ s) (h1 : ∀ p ∈ fo, p.1.1 ≠ s) (h2 : ∀ p ∈ ar, p.1 ≠ s) (hn : (V s).n ≤ 40) (hm : (V s).m ≤ 40) (hfo : fo.length ≤ 4000) (har : ar.length ≤ 4000) (ht : th.length ≤ 4000) (hst : st.length ≤ 4000) {o1 o2 x8 f9 e10 g11 : Option D} :
    ∃ x8' f9' e10' g11', b4__law_sum [o1, o2, some (.loc 0), some (.loc 1), some (.loc 2), some (.loc 3), some (.int (s : Nat)), some (V s).D, x8, f9, e10, g11] (sSt V th ar st fo) =
      .next [o1, o2, some (.loc 0), some (.loc 1), some (.loc 2), some (.loc 3), some (.int (s : Nat)), some (V s).D, x8', f9', e10', g11'] (sSt V (th ++ rowP s (V s).n) (ar ++ rowP s (V s).m) (st ++ rowP s (V s).n) (fo ++ folP V s (V s).m)) := by
  obtain ⟨x8', e1⟩ := l1_sum (V := V) (s := s) (ar := ar) (fo := fo) h0 (by omega) ht hst (o1 := o1) (o2 := o2) (x8 := x8) (f9 := f9) (e10 := e10) (g11 := g11)
  obtain ⟨f9', e10', g11', e2⟩ := l3_sum (V := V) (s := s) (th := th ++ rowP s (V s).n) (st := st ++ rowP s (V s).n) h1 h2 hm hfo har (o1 := o1) (o2 := o2) (x8 := x8') (f9 := f9) (e10 := e10) (g11 := g11)
  refine ⟨x8', f9', e10', g11', ?_⟩
  unfold b4__law_sum sSeq
  rw [e1, SRes.seq_next, e2]
end
theorem rowP_nd (s n : Nat) : (rowP s n).Nodup := nd_map (fun a b e => congrArg Prod.snd e) List.nodup_range
theorem mem_rowP {s n : Nat} {q : P2} : q ∈ rowP s n ↔ q.1 = s ∧ q.2 < n := by
  unfold rowP
  rw [List.mem_map]
  constructor
  · rintro ⟨x, hx, rfl⟩
    exact ⟨rfl, List.mem_range.mp hx⟩
  · rintro ⟨h1, h2⟩
    exact ⟨q.2, List.mem_range.mpr h2, by rw [← h1]⟩
section
variable {W1 W2 : Wd} (C1 : IsCat W1) (C2 : IsCat W2)
def sTs (W1 W2 : Wd) : List P2 := rowP 0 W1.n ++ rowP 1 W2.n
def sAs (W1 W2 : Wd) : List P2 := rowP 0 W1.m ++ rowP 1 W2.m
def sFl (W1 W2 : Wd) : List (P2 × P2) := folP (sideW W1 W2) 0 W1.m ++ folP (sideW W1 W2) 1 W2.m
theorem mem_two {n1 n2 : Nat} {q : P2} : q ∈ rowP 0 n1 ++ rowP 1 n2 ↔ (q.1 = 0 ∧ q.2 < n1) ∨ (q.1 = 1 ∧ q.2 < n2) := by
  rw [List.mem_append, mem_rowP, mem_rowP]
theorem mem_sTs {q : P2} : q ∈ sTs W1 W2 ↔ q.1 < 2 ∧ q.2 < (sideW W1 W2 q.1).n := by
  unfold sTs
  rw [mem_two]
  obtain ⟨s, x⟩ := q
  dsimp only
  constructor
  · rintro (⟨rfl, h⟩ | ⟨rfl, h⟩)
    · exact ⟨by omega, h⟩
    · exact ⟨by omega, h⟩
  · rintro ⟨h, h2⟩
    obtain rfl | rfl : s = 0 ∨ s = 1 := by omega
    · exact .inl ⟨rfl, h2⟩
    · exact .inr ⟨rfl, h2⟩
theorem mem_sAs {q : P2} : q ∈ sAs W1 W2 ↔ q.1 < 2 ∧ q.2 < (sideW W1 W2 q.1).m := by
  unfold sAs
  rw [mem_two]
  obtain ⟨s, x⟩ := q
  dsimp only
  constructor
  · rintro (⟨rfl, h⟩ | ⟨rfl, h⟩)
    · exact ⟨by omega, h⟩
    · exact ⟨by omega, h⟩
  · rintro ⟨h, h2⟩
    obtain rfl | rfl : s = 0 ∨ s = 1 := by omega
    · exact .inl ⟨rfl, h2⟩
    · exact .inr ⟨rfl, h2⟩
theorem mem_folP {V : Nat → Wd} {s k : Nat} {p : P2 × P2} : p ∈ folP V s k ↔ p.1.1 = s ∧ p.2.1 = s ∧ p.1.2 < k ∧ p.2.2 < (V s).m ∧ 0 ≤ (V s).c p.1.2 p.2.2 := by
  unfold folP folR
  simp only [List.mem_flatMap, List.mem_map, List.mem_filter, List.mem_range, decide_eq_true_eq]
  constructor
  · rintro ⟨a, ha, b, ⟨hb, hc⟩, rfl⟩
    exact ⟨rfl, rfl, ha, hb, hc⟩
  · rintro ⟨h1, h2, h3, h4, h5⟩
    exact ⟨p.1.2, h3, p.2.2, ⟨h4, h5⟩, by ext <;> simp [h1, h2]⟩
include C1 C2
theorem side_cat (s : Nat) : IsCat (sideW W1 W2 s) := by
  unfold sideW
  split
  · exact C1
  · exact C2
theorem cat_follows {W : Wd} (C : IsCat W) {f g : Nat} (hf : f < W.m) (hg : g < W.m) : 0 ≤ W.c f g ↔ W.t f = W.s g := by
  constructor
  · intro h
    exact Classical.byContradiction fun z => by
      rw [C.gap f g hf hg z] at h
      omega
  · intro e
    obtain ⟨p, _, hc, _⟩ := C.comp f g hf hg e
    rw [hc]
    exact Int.natCast_nonneg _
theorem mem_sFl {a b : P2} : (a, b) ∈ sFl W1 W2 ↔ a ∈ sAs W1 W2 ∧ b ∈ sAs W1 W2 ∧ sDst (sideW W1 W2) a = sSrc (sideW W1 W2) b := by
  have C := side_cat C1 C2
  unfold sFl
  rw [List.mem_append, mem_folP, mem_folP, mem_sAs, mem_sAs]
  obtain ⟨s, f⟩ := a
  obtain ⟨s', g⟩ := b
  unfold sDst sSrc
  dsimp only
  constructor
  · rintro (⟨rfl, rfl, h1, h2, h3⟩ | ⟨rfl, rfl, h1, h2, h3⟩)
    · exact ⟨⟨by omega, h1⟩, ⟨by omega, h2⟩, by rw [(cat_follows C1 C2 (C 0) h1 h2).mp h3]⟩
    · exact ⟨⟨by omega, h1⟩, ⟨by omega, h2⟩, by rw [(cat_follows C1 C2 (C 1) h1 h2).mp h3]⟩
  · rintro ⟨⟨h1, h2⟩, ⟨h3, h4⟩, e⟩
    have e1 := congrArg Prod.fst e
    have e2 := congrArg Prod.snd e
    dsimp only at e1 e2
    subst e1
    have h5 := (cat_follows C1 C2 (C s) h2 h4).mpr e2
    obtain rfl | rfl : s = 0 ∨ s = 1 := by omega
    · exact .inl ⟨rfl, rfl, h2, h4, h5⟩
    · exact .inr ⟨rfl, rfl, h2, h4, h5⟩
theorem sum_ac : AC (sTs W1 W2) (sAs W1 W2) (sSrc (sideW W1 W2)) (sDst (sideW W1 W2)) (fun t => t) (sCf (sideW W1 W2)) := by
  have C := side_cat C1 C2
  have dis : ∀ n1 n2 : Nat, (rowP 0 n1 ++ rowP 1 n2).Nodup := fun n1 n2 => by
    rw [List.nodup_append]
    refine ⟨rowP_nd _ _, rowP_nd _ _, fun a ha b hb e => ?_⟩
    have h1 := (mem_rowP.mp ha).1
    have h2 := (mem_rowP.mp hb).1
    rw [e, h2] at h1
    omega
  have cfv : ∀ {s f g h : Nat}, (sideW W1 W2 s).c f g = (h : Int) → sCf (sideW W1 W2) (s, f) (s, g) = (s, h) := fun e => by
    unfold sCf
    dsimp only
    rw [e]
    rfl
  constructor
  · exact dis _ _
  · exact dis _ _
  · rintro ⟨s, x⟩ ht
    rw [mem_sTs] at ht
    dsimp only at ht
    have i := (C s).ids x ht.2
    refine ⟨mem_sAs.mpr ⟨ht.1, Nat.lt_of_lt_of_le ht.2 (C s).nm⟩, ?_, ?_⟩
    · unfold sSrc; dsimp only; rw [i.1]
    · unfold sDst; dsimp only; rw [i.2]
  · rintro ⟨s, f⟩ ha
    rw [mem_sAs] at ha
    have r := (C s).rng f ha.2
    exact ⟨mem_sTs.mpr ⟨ha.1, r.1⟩, mem_sTs.mpr ⟨ha.1, r.2⟩⟩
  · rintro ⟨s, f⟩ ha ⟨s', g⟩ hb e
    rw [mem_sAs] at ha hb
    have e1 : s = s' := congrArg Prod.fst e
    have e2 := congrArg Prod.snd e
    subst e1
    obtain ⟨h, hh, hc, sh, th⟩ := (C s).comp f g ha.2 hb.2 e2
    rw [cfv hc]
    refine ⟨mem_sAs.mpr ⟨ha.1, hh⟩, ?_, ?_⟩
    · unfold sSrc; dsimp only; rw [sh]
    · unfold sDst; dsimp only; rw [th]
  · rintro ⟨s, f⟩ ha
    rw [mem_sAs] at ha
    exact cfv ((C s).unL f ha.2)
  · rintro ⟨s, f⟩ ha
    rw [mem_sAs] at ha
    exact cfv ((C s).unR f ha.2)
  · rintro ⟨s, f⟩ ha ⟨s', g⟩ hb ⟨s'', h⟩ hc e e'
    rw [mem_sAs] at ha hb hc
    have e1 : s = s' := congrArg Prod.fst e
    have e2 := congrArg Prod.snd e
    have e3 : s' = s'' := congrArg Prod.fst e'
    have e4 := congrArg Prod.snd e'
    subst e1
    subst e3
    obtain ⟨p, hp, pc, sp, tp⟩ := (C s).comp f g ha.2 hb.2 e2
    obtain ⟨q, hq, qc, sq, tq⟩ := (C s).comp g h hb.2 hc.2 e4
    rw [cfv pc, cfv qc]
    have as := (C s).assoc f g h p q ha.2 hb.2 hc.2 e2 e4 pc qc
    unfold sCf
    dsimp only
    rw [as]
theorem restV_pD (us : List P2) (src dst : P2 → P2) (as : List P2) : sortB (as.map (restV us pD pD src dst)) = true := by
  have fl : D.flatAll 60 (as.map (restV us pD pD src dst)) = true := by
    induction as with
    | nil => simp [D.flatAll]
    | cons a as ih =>
      rw [List.map_cons]
      simp only [D.flatAll, ih, Bool.and_true]
      simp [restV, numV, D.flat, D.flatAll, pD]
  unfold sortB
  simp only [Bool.and_eq_true, Bool.or_eq_true]
  refine ⟨⟨fl, ?_⟩, .inl ?_⟩
  · unfold alikeB
    simp only [List.all_eq_true, List.mem_map]
    rintro _ ⟨p, _, rfl⟩ _ ⟨q, _, rfl⟩
    simp [restV, numV, pD, D.py, D.pyAll, PySem.W.alike, PySem.W.alikeAll]
  · simp only [List.all_eq_true, List.mem_map]
    rintro _ ⟨p, _, rfl⟩
    rfl
/-- a world that a call gives, whatever the store -/
theorem sum_ok (h1 : W1.m ≤ 40) (h2 : W2.m ≤ 40) : ∃ W : Wd, IsCat W ∧ ∀ S, callP f__law_sum [W1.D, W2.D] S = .ok W.D S := by
  have hb := big
  have n1 := C1.nm
  have n2 := C2.nm
  have lr : ∀ s n, (rowP s n).length = n := fun s n => by unfold rowP; simp
  obtain ⟨us, al, pu, nd, mem, C, e⟩ := named_ok (encN := pD) (fl := sFl W1 W2) ke_pD ke_pD ke_ppD (sum_ac C1 C2) (sortB_pD _) (fun us => restV_pD C1 C2 us _ _ _) (by unfold sAs; rw [List.length_append, lr, lr]; omega) (fun a b => mem_sFl C1 C2) (fun t => rfl) (fun t => rfl) (fun t => rfl)
  refine ⟨_, C, fun S => callP_ok (S1 := [none, none, none, none]) ?_ (by simp [D.pureAll, wd_pure]) (wd_pure _)⟩
  have m0 : (folP (sideW W1 W2) 0 W1.m).length ≤ 4000 := by
    have := folP_len (V := sideW W1 W2) (s := 0) W1.m
    have e : W1.m * (sideW W1 W2 0).m ≤ 40 * 40 := Nat.mul_le_mul h1 h1
    omega
  obtain ⟨x8, f9, e10, g11, q1⟩ := b4_sum (V := sideW W1 W2) (s := 0) (th := []) (ar := []) (st := []) (fo := []) (by simp) (by simp) (by simp) (Nat.le_trans n1 h1) h1 (by simp) (by simp) (by simp) (by simp) (o1 := some W1.D) (o2 := some W2.D) (x8 := none) (f9 := none) (e10 := none) (g11 := none)
  obtain ⟨x8', f9', e10', g11', q2⟩ := b4_sum (V := sideW W1 W2) (s := 1) (th := rowP 0 W1.n) (ar := rowP 0 W1.m) (st := rowP 0 W1.n) (fo := folP (sideW W1 W2) 0 W1.m)
    (fun p hp z => by have := (mem_rowP.mp hp).1; omega) (fun p hp z => by have := (mem_folP.mp hp).1; omega) (fun p hp z => by have := (mem_rowP.mp hp).1; omega) (Nat.le_trans n2 h2) h2 m0 (by rw [lr]; omega) (by rw [lr]; omega) (by rw [lr]; omega) (o1 := some W1.D) (o2 := some W2.D) (x8 := x8) (f9 := f9) (e10 := e10) (g11 := g11)
  have q1 : b4__law_sum [some W1.D, some W2.D, some (.loc 0), some (.loc 1), some (.loc 2), some (.loc 3), some (.int 0), some W1.D, none, none, none, none] [some (.lst []), some (.dct false [] []), some (.dct false [] []), some (.dct false [] [])] = .next [some W1.D, some W2.D, some (.loc 0), some (.loc 1), some (.loc 2), some (.loc 3), some (.int 0), some W1.D, x8, f9, e10, g11] (sSt (sideW W1 W2) (rowP 0 W1.n) (rowP 0 W1.m) (rowP 0 W1.n) (folP (sideW W1 W2) 0 W1.m)) := q1
  have q2 : b4__law_sum [some W1.D, some W2.D, some (.loc 0), some (.loc 1), some (.loc 2), some (.loc 3), some (.int 1), some W2.D, x8, f9, e10, g11] (sSt (sideW W1 W2) (rowP 0 W1.n) (rowP 0 W1.m) (rowP 0 W1.n) (folP (sideW W1 W2) 0 W1.m)) = .next [some W1.D, some W2.D, some (.loc 0), some (.loc 1), some (.loc 2), some (.loc 3), some (.int 1), some W2.D, x8', f9', e10', g11'] [some (.lst ((sTs W1 W2).map pD)), some (dO true pD (sArr (sideW W1 W2)) (sAs W1 W2)), some (dO true pD pD (sTs W1 W2)), some (dO true (ppD pD) (sFol (sideW W1 W2)) (sFl W1 W2))] := q2
  generalize sSt (sideW W1 W2) (rowP 0 W1.n) (rowP 0 W1.m) (rowP 0 W1.n) (folP (sideW W1 W2) 0 W1.m) = S1 at *
  have f1 : frz (.loc 0) [some (.lst ((sTs W1 W2).map pD)), some (dO true pD (sArr (sideW W1 W2)) (sAs W1 W2)), some (dO true pD pD (sTs W1 W2)), some (dO true (ppD pD) (sFol (sideW W1 W2)) (sFl W1 W2))] = .ok (.lst ((sTs W1 W2).map pD)) [none, some (dO true pD (sArr (sideW W1 W2)) (sAs W1 W2)), some (dO true pD pD (sTs W1 W2)), some (dO true (ppD pD) (sFol (sideW W1 W2)) (sFl W1 W2))] := frz_at rfl
  have f2 : frz (.loc 1) [none, some (dO true pD (sArr (sideW W1 W2)) (sAs W1 W2)), some (dO true pD pD (sTs W1 W2)), some (dO true (ppD pD) (sFol (sideW W1 W2)) (sFl W1 W2))] = .ok (dD true pD (sArr (sideW W1 W2)) (sAs W1 W2)) [none, none, some (dO true pD pD (sTs W1 W2)), some (dO true (ppD pD) (sFol (sideW W1 W2)) (sFl W1 W2))] := frz_atD rfl
  have f3 : frz (.loc 2) [none, none, some (dO true pD pD (sTs W1 W2)), some (dO true (ppD pD) (sFol (sideW W1 W2)) (sFl W1 W2))] = .ok (dD true pD pD (sTs W1 W2)) [none, none, none, some (dO true (ppD pD) (sFol (sideW W1 W2)) (sFl W1 W2))] := frz_atD rfl
  have f4 : frz (.loc 3) [none, none, none, some (dO true (ppD pD) (sFol (sideW W1 W2)) (sFl W1 W2))] = .ok (dD true (ppD pD) (sFol (sideW W1 W2)) (sFl W1 W2)) [none, none, none, none] := frz_atD rfl
  have e : ∀ S, callP f__law_named [.lst ((sTs W1 W2).map pD), dD true pD (sArr (sideW W1 W2)) (sAs W1 W2), dD true pD pD (sTs W1 W2), dD true (ppD pD) (sFol (sideW W1 W2)) (sFl W1 W2)] S = _ := e
  generalize D.lst ((sTs W1 W2).map pD) = Z0 at *
  generalize dD true pD (sArr (sideW W1 W2)) (sAs W1 W2) = Z1 at *
  generalize dD true pD pD (sTs W1 W2) = Z2 at *
  generalize dD true (ppD pD) (sFol (sideW W1 W2)) (sFl W1 W2) = Z3 at *
  generalize [some (Ob.lst ((sTs W1 W2).map pD)), some (dO true pD (sArr (sideW W1 W2)) (sAs W1 W2)), some (dO true pD pD (sTs W1 W2)), some (dO true (ppD pD) (sFol (sideW W1 W2)) (sFl W1 W2))] = S2 at *
  generalize [none, some (dO true pD (sArr (sideW W1 W2)) (sAs W1 W2)), some (dO true pD pD (sTs W1 W2)), some (dO true (ppD pD) (sFol (sideW W1 W2)) (sFl W1 W2))] = S3 at *
  generalize [none, none, some (dO true pD pD (sTs W1 W2)), some (dO true (ppD pD) (sFol (sideW W1 W2)) (sFl W1 W2))] = S4 at *
  generalize [none, none, none, some (dO true (ppD pD) (sFol (sideW W1 W2)) (sFl W1 W2))] = S5 at *
  simp_arith [f__law_sum, m__law_sum, eDict, l4__law_sum, sFor, loop, q1, q2, f1, f2, f3, f4, e, idx_0]
end
end Mi
set_option linter.all false
set_option maxRecDepth 100000
namespace Mi
open PySem L2 L_TE
local macro_rules | `(tactic| simp_arith [$ls,*]) => `(tactic| simp [runF, sSeq, sIf, sAsg, sRet, sRetN, sNext, sDrop, sBrk, sCont, sPar, gName, gTup, gSeq, gSub, eOp1, eOp2, eVar, eC, eBlt, lBlt, lOp1, lOp2, sl3, aOne, aCons, aNil, eTup, lOf, eFrz, eNew, eIf, eB, tB, tNot, tAnd, tOr, tOp2, tChain, eAnd, eOr, eCall, eMth, Res.toS, SRes.seq, SRes.only, Res.bind, iOf, items, iRange1, iRange2, iEnum, enumOf, range1, range2, sFrz, b2, i2, i2c, gtD, ltD, leD, geD, subD, mulD, modD, divD, intD, isN, notN, D.isNon, negD, sizeLine_eq, $ls,*])
/-- a loop that runs through or returns -/
theorem loop_or {α : Type} {body : D → SM} (enc : α → D) (I : Nat → Env → Store → Prop) (Q : D → Store → Prop) : ∀ (xs : List α) (i : Nat) (ρ : Env) (S : Store), I i ρ S →
    (∀ j x ρ S, xs[j]? = some x → I (i + j) ρ S → (∃ ρ' S', body (enc x) ρ S = .next ρ' S' ∧ I (i + j + 1) ρ' S') ∨ (∃ d S', body (enc x) ρ S = .ret d S' ∧ Q d S')) →
    (∃ ρ' S', loop body (xs.map enc) ρ S = .next ρ' S' ∧ I (i + xs.length) ρ' S') ∨ (∃ d S', loop body (xs.map enc) ρ S = .ret d S' ∧ Q d S')
  | [], i, ρ, S, h, _ => .inl ⟨ρ, S, rfl, h⟩
  | x :: xs, i, ρ, S, h, step => by
    rw [List.map_cons]
    rcases step 0 x ρ S rfl h with ⟨ρ1, S1, h1, h2⟩ | ⟨d, S1, h1, h2⟩
    · have ih := loop_or enc I Q xs (i + 1) ρ1 S1 h2 fun j y ρ S hy hI => by
        have := step (j + 1) y ρ S (by simpa using hy) (by rw [show i + (j + 1) = i + 1 + j by omega]; exact hI)
        rwa [show i + (j + 1) + 1 = i + 1 + j + 1 by omega] at this
      rw [List.length_cons, show i + (xs.length + 1) = i + 1 + xs.length by omega]
      unfold loop
      rw [h1]
      exact ih
    · refine .inr ⟨d, S1, ?_, h2⟩
      unfold loop
      rw [h1]
def zD (n : Nat) : D := .int (n : Nat)
def szD (sz : List Nat) : D := .lst (sz.map zD)
theorem mD_x {m : Mv} {S : Store} : idxS (mD m) (.int 0) S = .ok (.int (m.x : Nat)) S := idx_0
theorem mD_y {m : Mv} {S : Store} : idxS (mD m) (.int 1) S = .ok (.int (m.y : Nat)) S := idx_1
theorem mD_es {m : Mv} {S : Store} : idxS (mD m) (.int 2) S = .ok (.tup (m.es.map zD)) S := idx_2
theorem idx_es {l : List Nat} {e : Nat} (h : e < l.length) {S : Store} : idxS (.tup (l.map zD)) (.int (e : Nat)) S = .ok (.int (l.getD e 0 : Nat)) S := by
  rw [idx_tup (by omega) (by simpa using h)]
  simp [zD, h]
theorem idx_sz {l : List Nat} {e : Nat} (h : e < l.length) {S : Store} : idxS (szD l) (.int (e : Nat)) S = .ok (.int (l.getD e 0 : Nat)) S := by
  unfold szD
  rw [idx_lst (by omega) (by simpa using h)]
  simp [zD, h]
theorem tupR_n {n : Nat} (h : n ≤ 10000) {S : Store} : tupR [.rng 0 (n : Nat)] S = .ok (.tup ((List.range n).map zD)) S := by
  unfold tupR
  dsimp only
  rw [if_pos, intsD_zero']
  · rfl
  · unfold rgB
    rw [rngB_ok _ h]
    simp
    omega
section
variable {sz : List Nat} {z0 : Option Ob} {mv mo : Option D}
def mS (z0 : Option Ob) (L : List Mv) : Store := [z0, some (.lst (L.map mD))]
theorem c3_closed {a b : Mv} (hb : ∀ e ∈ a.es, e < b.es.length) (hl : a.es.length ≤ 10000) {S : Store} {v0 v1 v2 v3 v4 v5 v6 v7 v8 v11 v12 : Option D} :
    c3__law_closed_moves [v0, v1, v2, v3, v4, v5, v6, v7, v8, some (mD a), some (mD b), v11, v12] S = .ok ((a.cf b).es.map zD) S := by
  unfold c3__law_closed_moves
  have := comp_map (vs := [12]) (it := iOf (eOp2 idxS (eVar 9) (eC (.int 2)))) (g := gName 12) (e := eOp2 idxS (eOp2 idxS (eVar 10) (eC (.int 2))) (eVar 12)) (ρ := [v0, v1, v2, v3, v4, v5, v6, v7, v8, some (mD a), some (mD b), v11, v12]) (S := S) (S1 := S) (xs := a.es) zD (fun e => .int (b.es.getD e 0 : Nat)) (by simp_arith [mD_es])
    (fun e he => ⟨_, rfl, by
      have h := idx_es (l := b.es) (S := S) (hb e he)
      simp_arith [wipe, mD_es, zD, h]⟩) (Nat.le_trans hl big)
  rw [this]
  unfold Mv.cf
  rw [List.map_map]
  rfl
theorem b1_closed {L : List Mv} {a b : Mv} (G : Grow sz L) (ha : a ∈ L) (hb : b ∈ L) (hsz : ∀ s ∈ sz, s ≤ 100) (hl : L.length ≤ 5000) {v0 v4 v5 v6 v7 v8 v11 v12 : Option D} :
    ∃ v11', b1__law_closed_moves [v0, mv, mo, some (.loc 1), v4, v5, v6, v7, v8, some (mD a), some (mD b), v11, v12] (mS z0 L) = .next [v0, mv, mo, some (.loc 1), v4, v5, v6, v7, v8, some (mD a), some (mD b), v11', v12] (mS z0 (st1 L (a, b))) := by
  have hbig := big
  have fa := G.fit a ha
  have fb := G.fit b hb
  by_cases e : a.y = b.x
  · have bnd : ∀ e' ∈ a.es, e' < b.es.length := fun e' he => by
      rw [fb.len, ← e]
      exact fa.lt e' he
    have al : a.es.length ≤ 10000 := by
      rw [fa.len, List.getD_eq_getElem?_getD, List.getElem?_eq_getElem fa.hx]
      have := hsz _ (List.getElem_mem fa.hx)
      simp
      omega
    have q1 := fun S => c3_closed (a := a) (b := b) bnd al (S := S) (v0 := v0) (v1 := mv) (v2 := mo) (v3 := some (.loc 1)) (v4 := v4) (v5 := v5) (v6 := v6) (v7 := v7) (v8 := v8) (v11 := v11) (v12 := v12)
    have r1 : rd (.loc 1) (mS z0 L) = some (.lst (L.map mD)) := rfl
    have q2 := nin_mD (a.cf b) L (mS z0 L) r1
    have md : mD (a.cf b) = .tup [.int (a.x : Nat), .int (b.y : Nat), .tup ((a.cf b).es.map zD)] := rfl
    by_cases h : a.cf b ∈ L
    · have s : st1 L (a, b) = L := by unfold st1; rw [if_neg (fun z => z.2 h)]
      refine ⟨some (mD (a.cf b)), ?_⟩
      rw [s]
      rw [md] at q2 ⊢
      generalize mS z0 L = S0 at *
      unfold b1__law_closed_moves
      simp_arith [mD_x, mD_y, eq_int, e, q1, tupD, rd, q2, h]
    · have s : st1 L (a, b) = L ++ [a.cf b] := by unfold st1; rw [if_pos ⟨e, h⟩]
      have q3 : isL (.loc 1) (mS z0 L) = true := isL_at rfl
      have q4 := app_at (S := mS z0 L) (l := 1) (v := mD (a.cf b)) rfl (by simp; omega)
      have q5 : (mS z0 L).set 1 (some (.lst (L.map mD ++ [mD (a.cf b)]))) = mS z0 (L ++ [a.cf b]) := by
        unfold mS
        rw [List.map_append]
        rfl
      rw [q5] at q4
      refine ⟨some (mD (a.cf b)), ?_⟩
      rw [s]
      rw [md] at q2 q4 ⊢
      generalize mS z0 L = S0 at *
      generalize mS z0 (L ++ [a.cf b]) = S1 at *
      unfold b1__law_closed_moves
      simp_arith [mD_x, mD_y, eq_int, e, q1, tupD, rd, q2, h, q3, q4]
  · have s : st1 L (a, b) = L := by unfold st1; rw [if_neg (fun z => e z.1)]
    have e2 : ((a.y : Int) == (b.x : Int)) = false := by simp; omega
    refine ⟨v11, ?_⟩
    rw [s]
    unfold b1__law_closed_moves
    simp_arith [mD_x, mD_y, eq_int, e2, e]
theorem idx_mS {L : List Mv} {k : Nat} {f : Mv} (h : L[k]? = some f) : idxS (.loc 1) (.int (k : Nat)) (mS z0 L) = .ok (mD f) (mS z0 L) := by
  obtain ⟨hl, e⟩ := List.getElem?_eq_some_iff.mp h
  unfold idxS
  have r : rd (.loc 1) (mS z0 L) = some (.lst (L.map mD)) := rfl
  rw [r]
  dsimp only
  rw [atI_nat (by simpa using hl), List.getElem_map, e]
  rfl
theorem l1_closed {L : List Mv} {f o : Mv} {k : Nat} (G : Grow sz L) (hf : L[k]? = some f) (ho : o ∈ L) (hsz : ∀ s ∈ sz, s ≤ 100) (hl : L.length ≤ 4000) {v0 v4 v5 v6 v9 v10 v11 v12 : Option D} :
    ∃ v9' v10' v11', l1__law_closed_moves [v0, mv, mo, some (.loc 1), v4, v5, v6, some (.int (k : Nat)), some (mD o), v9, v10, v11, v12] (mS z0 L) = .next [v0, mv, mo, some (.loc 1), v4, v5, v6, some (.int (k : Nat)), some (mD o), v9', v10', v11', v12] (mS z0 (st2 f L o)) := by
  have mf := List.mem_of_getElem? hf
  have p := st1_pre L (f, o)
  have ln := st1_len L (f, o)
  obtain ⟨w1, q1⟩ := b1_closed (z0 := z0) (mv := mv) (mo := mo) G mf ho hsz (by omega) (v0 := v0) (v4 := v4) (v5 := v5) (v6 := v6) (v7 := some (.int (k : Nat))) (v8 := some (mD o)) (v11 := v11) (v12 := v12)
  obtain ⟨w2, q2⟩ := b1_closed (z0 := z0) (mv := mv) (mo := mo) (G.st1 (p := (f, o)) mf ho) (p.subset ho) (p.subset mf) hsz (by omega) (v0 := v0) (v4 := v4) (v5 := v5) (v6 := v6) (v7 := some (.int (k : Nat))) (v8 := some (mD o)) (v11 := w1) (v12 := v12)
  refine ⟨_, _, _, Eq.trans ?_ q2⟩
  have ix := idx_mS (z0 := z0) hf
  generalize mS z0 L = S0 at *
  generalize mS z0 (st1 L (f, o)) = S1 at *
  unfold l1__law_closed_moves sFor
  simp_arith [ix, loop, q1, q2]
theorem cut_all (l : List D) : cutD l none none = l := by
  unfold cutD
  simp [HT.sIx]
theorem l2_closed {L : List Mv} {f : Mv} {k : Nat} (G : Grow sz L) (hf : L[k]? = some f) (hsz : ∀ s ∈ sz, s ≤ 100) (hl : L.length ≤ 1000) {v0 v4 v5 v6 v8 v9 v10 v11 v12 : Option D} :
    ∃ v8' v9' v10' v11', l2__law_closed_moves [v0, mv, mo, some (.loc 1), v4, v5, v6, some (.int (k : Nat)), v8, v9, v10, v11, v12] (mS z0 L) = .next [v0, mv, mo, some (.loc 1), v4, v5, v6, some (.int (k : Nat)), v8', v9', v10', v11', v12] (mS z0 (L.foldl (st2 f) L)) := by
  have mf := List.mem_of_getElem? hf
  have hk := (List.getElem?_eq_some_iff.mp hf).1
  obtain ⟨ρ', S', lp, v8', v9', v10', v11', rfl, rfl⟩ := loop_inv (body := fun d ρ S => ((gName 8) d ρ S).only.seq b2__law_closed_moves) mD
    (fun j ρ S => ∃ v8 v9 v10 v11, ρ = [v0, mv, mo, some (.loc 1), v4, v5, v6, some (.int (k : Nat)), v8, v9, v10, v11, v12] ∧ S = mS z0 ((L.take j).foldl (st2 f) L)) L 0
    [v0, mv, mo, some (.loc 1), v4, v5, v6, some (.int (k : Nat)), v8, v9, v10, v11, v12] (mS z0 L) ⟨_, _, _, _, rfl, by simp⟩ (by
      rintro j o ρ S hj ⟨v8, v9, v10, v11, rfl, rfl⟩
      rw [Nat.zero_add]
      have ho := List.mem_of_getElem? hj
      obtain ⟨g1, g2, _, g4⟩ := fold2 (L.take j) L G mf fun o h => List.mem_of_mem_take h
      have tl : (L.take j).length ≤ L.length := List.length_take_le' _ _
      obtain ⟨v9', v10', v11', q⟩ := l1_closed (z0 := z0) (mv := mv) (mo := mo) (k := k) g1 ((pre_get g2 hk).trans hf) (g2.subset ho) hsz (by omega) (v0 := v0) (v4 := v4) (v5 := v5) (v6 := v6) (v9 := v9) (v10 := v10) (v11 := v11) (v12 := v12)
      have tk : L.take (j + 1) = L.take j ++ [o] := by rw [List.take_add_one, hj]; rfl
      refine ⟨_, _, .inl ?_, some (mD o), v9', v10', v11', rfl, rfl⟩
      rw [tk, List.foldl_append]
      show l1__law_closed_moves _ _ = _
      exact q)
  rw [Nat.zero_add, List.take_length] at lp
  refine ⟨v8', v9', v10', v11', ?_⟩
  rw [← lp]
  have r : rd (.loc 1) (mS z0 L) = some (.lst (L.map mD)) := rfl
  unfold l2__law_closed_moves sFor
  simp_arith [cutL, r, cut_all, oNone]
end
theorem mD_pure (m : Mv) : (mD m).pure = true := by
  have : D.pureAll (m.es.map fun e => D.int (e : Nat)) = true := pureAll_map fun x _ => rfl
  unfold mD
  simp [D.pure, D.pureAll, this]
theorem mDs_pure (L : List Mv) : D.pureAll (L.map mD) = true := pureAll_map fun x _ => mD_pure x
/-- what is kept of drawn moves: each once, none idle -/
def newP (F mv : List Mv) (q : Mv × Nat) : Bool := decide (q.1 ∉ F) && decide (q.1 ∉ mv.take q.2)
theorem newP_ok (F : List Mv) : ∀ (rest pre : List Mv), (((rest.zipIdx pre.length).filter (newP F (pre ++ rest))).map (·.1)).Nodup ∧ ∀ x ∈ ((rest.zipIdx pre.length).filter (newP F (pre ++ rest))).map (·.1), x ∉ F ∧ x ∉ pre ∧ x ∈ rest
  | [], pre => by simp
  | m :: rest, pre => by
    obtain ⟨h1, h2⟩ := newP_ok F rest (pre ++ [m])
    rw [List.length_append, List.length_singleton, List.append_assoc, List.singleton_append] at h1 h2
    rw [List.zipIdx_cons, List.filter_cons]
    have tk : (pre ++ m :: rest).take pre.length = pre := by simp
    by_cases e : newP F (pre ++ m :: rest) (m, pre.length) = true
    · rw [if_pos e, List.map_cons, List.nodup_cons]
      have e2 := e
      unfold newP at e2
      dsimp only at e2
      rw [tk, Bool.and_eq_true, decide_eq_true_eq, decide_eq_true_eq] at e2
      refine ⟨⟨fun z => (h2 m z).2.1 (by simp), h1⟩, fun x hx => ?_⟩
      rcases List.mem_cons.mp hx with rfl | hx
      · exact ⟨e2.1, e2.2, by simp⟩
      · obtain ⟨a, b, c⟩ := h2 x hx
        exact ⟨a, fun z => b (by simp [z]), by simp [c]⟩
    · rw [if_neg e]
      refine ⟨h1, fun x hx => ?_⟩
      obtain ⟨a, b, c⟩ := h2 x hx
      exact ⟨a, fun z => b (by simp [z]), by simp [c]⟩
section
variable {sz : List Nat} {mo : Option D}
def idles (sz : List Nat) : List Mv := (List.range sz.length).map (Mv.idle sz)
theorem c1_closed (h1 : sz.length ≤ 100) (hsz : ∀ s ∈ sz, s ≤ 100) {S : Store} {v1 v2 v3 v4 v5 v6 v7 v8 v9 v10 v11 v12 : Option D} :
    c1__law_closed_moves [some (szD sz), v1, v2, v3, v4, v5, v6, v7, v8, v9, v10, v11, v12] S = .ok ((idles sz).map mD) S := by
  have hb := big
  unfold c1__law_closed_moves idles
  rw [List.map_map]
  refine comp_map zD _ (walk_n (m := sz.length) (S1 := S) (by omega) (by
    unfold szD
    simp_arith [len_lst])) (fun x hx => ⟨_, rfl, ?_⟩) (by simp; omega)
  have hx := List.mem_range.mp hx
  have ix := idx_sz (S := S) hx
  have sl : sz.getD x 0 ≤ 10000 := by
    rw [List.getD_eq_getElem?_getD, List.getElem?_eq_getElem hx]
    have := hsz _ (List.getElem_mem hx)
    simp
    omega
  have t := tupR_n (S := S) sl
  obtain ⟨w, hw⟩ : ∃ w, w = sz.getD x 0 := ⟨_, rfl⟩
  have fin : mD (Mv.idle sz x) = .tup [.int (x : Nat), .int (x : Nat), .tup ((List.range w).map zD)] := by rw [hw]; rfl
  rw [← hw] at ix t
  show _ = Res.ok (mD (Mv.idle sz x)) S
  rw [fin]
  simp_arith [wipe, zD, ix, rng2, t]
theorem c2_closed {mv : List Mv} {z : Option Ob} {T : Store} (hT : rd (.loc 0) T = some (.lst ((idles sz).map mD))) (hl : mv.length ≤ 100) {v0 v4 v5 v6 v7 v8 v9 v10 v11 v12 : Option D} :
    c2__law_closed_moves [v0, some (.lst (mv.map mD)), mo, some (.loc 0), v4, v5, v6, v7, v8, v9, v10, v11, v12] T = .ok ((((mv.zipIdx 0).filter (newP (idles sz) mv)).map (·.1)).map mD) T := by
  have hb := big
  unfold c2__law_closed_moves
  rw [List.map_map]
  refine comp_of (fun p : Mv × Nat => .tup [.int (p.2 : Nat), mD p.1]) (newP (idles sz) mv) (fun p => mD p.1) ?_ (fun p hp => ⟨_, by simp_arith [wipe]; rfl, ?_, fun _ => by simp_arith [wipe]⟩) (by simp; omega)
  · simp_arith [enumD_map]
  · obtain ⟨m, k⟩ := p
    have q1 := nin_mD m (idles sz) T hT
    have q2 := fun S => nin_mD m (mv.take k) S (x := .lst ((mv.take k).map mD)) rfl
    have q3 : cutD (mv.map mD) none (some (k : Int)) = (mv.take k).map mD := by
      unfold cutD
      rw [List.map_take]
      have hk : ¬ (k : Int) < 0 := by omega
      simp only [HT.sIx]
      simp [hk]
    unfold newP
    generalize (mv.take k).map mD = MK at *
    simp_arith [wipe, q1, cutL, rd, oNone, oSome, q3, q2]
    by_cases e : m ∈ idles sz
    · simp [e]
    · simp [e, q2]
/-- closed under doing one and then another -/
def Clo (L : List Mv) : Prop := ∀ a ∈ L, ∀ b ∈ L, a.y = b.x → a.cf b ∈ L
theorem Clo.fold {L : List Mv} (c : Clo L) {f : Mv} (hf : f ∈ L) : ∀ os : List Mv, (∀ o ∈ os, o ∈ L) → os.foldl (st2 f) L = L
  | [], _ => rfl
  | o :: os, h => by
    have ho := h o List.mem_cons_self
    have s1 : ∀ p : Mv × Mv, p.1 ∈ L → p.2 ∈ L → st1 L p = L := fun p h1 h2 => by
      unfold st1
      rw [if_neg (fun z => z.2 (c _ h1 _ h2 z.1))]
    have s2 : st2 f L o = L := by
      unfold st2
      rw [s1 (f, o) hf ho, s1 (o, f) ho hf]
    rw [List.foldl_cons, s2]
    exact Clo.fold c hf os fun q hq => h q (List.mem_cons_of_mem _ hq)
/-- what _law_closed_moves answers -/
def ClosedR (sz : List Nat) (most : Nat) (d : D) : Prop := d = .non ∨ ∃ L : List Mv, d = .lst (L.map mD) ∧ L.length ≤ most ∧ Mvs sz L
theorem l3_closed {L : List Mv} {z0 : Option Ob} {most : Nat} {mv : Option D} (G : Grow sz L) (hi : ∀ x, x < sz.length → Mv.idle sz x ∈ L) (hsz : ∀ s ∈ sz, s ≤ 100) (hl : L.length ≤ 1000) (hm : most ≤ 100) {v0 v4 v5 v6 : Option D} :
    (∃ ρ' S', l3__law_closed_moves [v0, mv, some (.int (most : Nat)), some (.loc 1), v4, v5, v6, none, none, none, none, none, none] (mS z0 L) = .next ρ' S' ∧
        ∃ (L' : List Mv) (v7 v8 v9 v10 v11 v12 : Option D), ρ' = [v0, mv, some (.int (most : Nat)), some (.loc 1), v4, v5, v6, v7, v8, v9, v10, v11, v12] ∧ S' = mS z0 L' ∧ Grow sz L' ∧ L <+: L' ∧ Cl (most + 1) L' ∧ L'.length ≤ 1000 ∧ (Clo L → L' = L)) ∨
      (∃ d S', l3__law_closed_moves [v0, mv, some (.int (most : Nat)), some (.loc 1), v4, v5, v6, none, none, none, none, none, none] (mS z0 L) = .ret d S' ∧ d = .non ∧ ¬ (Clo L ∧ L.length ≤ most)) := by
  have key := loop_or (body := fun d ρ S => ((gName 7) d ρ S).only.seq b3__law_closed_moves) (fun i : Nat => D.int (i : Nat))
    (fun j ρ S => ∃ (L' : List Mv) (v7 v8 v9 v10 v11 v12 : Option D), ρ = [v0, mv, some (.int (most : Nat)), some (.loc 1), v4, v5, v6, v7, v8, v9, v10, v11, v12] ∧ S = mS z0 L' ∧ Grow sz L' ∧ L <+: L' ∧ Cl j L' ∧ L'.length ≤ 1000 ∧ (Clo L → L' = L))
    (fun d S => d = .non ∧ ¬ (Clo L ∧ L.length ≤ most)) (List.range (most + 1)) 0 [v0, mv, some (.int (most : Nat)), some (.loc 1), v4, v5, v6, none, none, none, none, none, none] (mS z0 L)
    ⟨L, _, _, _, _, _, _, rfl, rfl, G, List.prefix_refl _, fun i j a b h => by omega, hl, fun _ => rfl⟩ (by
      rintro j x ρ S hj ⟨L', v7, v8, v9, v10, v11, v12, rfl, rfl, G', pf, cl, hl', hc⟩
      have hjl := (List.getElem?_eq_some_iff.mp hj).1
      rw [List.length_range] at hjl
      have hy : x = j := by simpa [hjl] using hj.symm
      subst hy
      rw [Nat.zero_add] at cl ⊢
      have ln : lenD [.loc 1] (mS z0 L') = .ok (.int (L'.length : Nat)) (mS z0 L') := by
        unfold lenD
        have r : rd (.loc 1) (mS z0 L') = some (.lst (L'.map mD)) := rfl
        simp only [r]
        simp
      by_cases h1 : most < L'.length
      · have h1i : (most : Int) < (L'.length : Int) := by omega
        refine .inr ⟨.non, mS z0 L', ?_, rfl, fun z => by rw [hc z.1] at h1; omega⟩
        generalize mS z0 L' = S0 at *
        unfold b3__law_closed_moves
        simp_arith [ln, h1i]
      · have h1i : ¬ (most : Int) < (L'.length : Int) := by omega
        by_cases h2 : x < L'.length
        · have h2i : (x : Int) < (L'.length : Int) := by omega
          have hf := List.getElem?_eq_getElem h2
          obtain ⟨v8', v9', v10', v11', q⟩ := l2_closed (z0 := z0) (mv := mv) (mo := some (.int (most : Nat))) G' hf hsz (by omega) (v0 := v0) (v4 := v4) (v5 := v5) (v6 := v6) (v8 := v8) (v9 := v9) (v10 := v10) (v11 := v11) (v12 := v12)
          obtain ⟨g1, g2, _, g4⟩ := fold2 L' L' G' (List.mem_of_getElem? hf) fun _ h => h
          refine .inl ⟨_, _, ?_, L'.foldl (st2 L'[x]) L', some (.int (x : Nat)), v8', v9', v10', v11', v12, rfl, rfl, g1, pf.trans g2, Cl.step G' cl hf, by omega, fun z => by
            have e := hc z
            subst e
            exact Clo.fold z (List.mem_of_getElem? hf) _ fun _ h => h⟩
          generalize mS z0 L' = S0 at *
          generalize mS z0 (L'.foldl (st2 L'[x]) L') = S1 at *
          unfold b3__law_closed_moves
          simp_arith [ln, h1i, h1, h2i, h2, q]
        · have h2i : ¬ (x : Int) < (L'.length : Int) := by omega
          refine .inl ⟨_, _, ?_, L', some (.int (x : Nat)), v8, v9, v10, v11, v12, rfl, rfl, G', pf, cl.more (by omega), hl', hc⟩
          generalize mS z0 L' = S0 at *
          unfold b3__law_closed_moves
          simp_arith [ln, h1i, h1, h2i, h2])
  rw [List.length_range, Nat.zero_add] at key
  have it : l3__law_closed_moves [v0, mv, some (.int (most : Nat)), some (.loc 1), v4, v5, v6, none, none, none, none, none, none] (mS z0 L) = loop (fun d ρ S => ((gName 7) d ρ S).only.seq b3__law_closed_moves) ((List.range (most + 1)).map fun i : Nat => D.int (i : Nat)) [v0, mv, some (.int (most : Nat)), some (.loc 1), v4, v5, v6, none, none, none, none, none, none] (mS z0 L) := by
    unfold l3__law_closed_moves sFor
    rw [walk_n (S1 := mS z0 L) (m := most + 1) (by omega) (by simp_arith [add_int])]
    rfl
  rw [it]
  exact key
theorem closed_ok {mv : List Mv} {most : Nat} (hz : sz.length ≤ 10) (hsz : ∀ s ∈ sz, s ≤ 100) (hmv : ∀ m ∈ mv, Mv.Fit sz m) (hl : mv.length ≤ 100) (hm : most ≤ 100) :
    ∃ d, ClosedR sz most d ∧ (mv = [] → sz.length ≤ most → d ≠ .non) ∧ ∀ S, callP f__law_closed_moves [szD sz, .lst (mv.map mD), .int (most : Nat)] S = .ok d S := by
  have hb := big
  let N := ((mv.zipIdx 0).filter (newP (idles sz) mv)).map (·.1)
  obtain ⟨n1, n2⟩ := newP_ok (idles sz) mv []
  have n1 : N.Nodup := n1
  have n2 : ∀ x ∈ N, x ∉ idles sz ∧ x ∉ ([] : List Mv) ∧ x ∈ mv := n2
  have nl : N.length ≤ mv.length := by
    show (((mv.zipIdx 0).filter _).map _).length ≤ _
    rw [List.length_map]
    exact Nat.le_trans (List.length_filter_le _ _) (by simp)
  have il : (idles sz).length = sz.length := by unfold idles; simp
  have G : Grow sz (idles sz ++ N) := ⟨by
    rw [List.nodup_append]
    refine ⟨nd_map (fun a b e => congrArg Mv.x e) List.nodup_range, n1, fun a ha b hb e => ?_⟩
    subst e
    exact (n2 a hb).1 ha, fun m hm => by
    rcases List.mem_append.mp hm with hm | hm
    · unfold idles at hm
      obtain ⟨x, hx, rfl⟩ := List.mem_map.mp hm
      exact Mv.Fit.idle (List.mem_range.mp hx)
    · exact hmv m (n2 m hm).2.2⟩
  have hcl : mv = [] → Clo (idles sz ++ N) := fun e => by
    have hN : N = [] := by
      show ((mv.zipIdx 0).filter _).map _ = []
      rw [e]
      rfl
    rw [hN, List.append_nil]
    intro a ha b hb e
    unfold idles at ha hb ⊢
    obtain ⟨x, hx, rfl⟩ := List.mem_map.mp ha
    obtain ⟨y, hy, rfl⟩ := List.mem_map.mp hb
    have e : x = y := e
    subst e
    exact List.mem_map.mpr ⟨x, hx, (Mv.idle_cf (Mv.Fit.idle (List.mem_range.mp hx))).symm⟩
  have hln : mv = [] → (idles sz ++ N).length = sz.length := fun e => by
    have hN : N = [] := by
      show ((mv.zipIdx 0).filter _).map _ = []
      rw [e]
      rfl
    rw [hN, List.append_nil, il]
  have hi : ∀ x, x < sz.length → Mv.idle sz x ∈ idles sz ++ N := fun x hx => List.mem_append_left _ (List.mem_map.mpr ⟨x, List.mem_range.mpr hx, rfl⟩)
  have q1 := fun S => c1_closed (S := S) (by omega) hsz (v1 := some (.lst (mv.map mD))) (v2 := some (.int (most : Nat))) (v3 := none) (v4 := none) (v5 := none) (v6 := none) (v7 := none) (v8 := none) (v9 := none) (v10 := none) (v11 := none) (v12 := none)
  have q2 := c2_closed (sz := sz) (z := none) (mv := mv) (mo := some (.int (most : Nat))) (T := [some (.lst ((idles sz).map mD))]) rfl hl (v0 := some (szD sz)) (v4 := none) (v5 := none) (v6 := none) (v7 := none) (v8 := none) (v9 := none) (v10 := none) (v11 := none) (v12 := none)
  have q3 : lAdd (.loc 0) (.lst (N.map mD)) [some (.lst ((idles sz).map mD))] = .ok ((idles sz ++ N).map mD) [some (.lst ((idles sz).map mD))] := by
    unfold lAdd
    have r : rd (.loc 0) [some (Ob.lst ((idles sz).map mD))] = some (.lst ((idles sz).map mD)) := rfl
    rw [r]
    simp only [rd]
    rw [if_pos (by simp only [List.length_map]; omega), List.map_append]
  have pa : D.pureAll [szD sz, .lst (mv.map mD), .int (most : Nat)] = true := by
    have : D.pureAll (sz.map zD) = true := pureAll_map fun x _ => rfl
    simp [D.pureAll, D.pure, szD, this, mDs_pure]
  rcases l3_closed (z0 := some (.lst ((idles sz).map mD))) (mv := some (.lst (mv.map mD))) G hi hsz (by simp; omega) hm (v0 := some (szD sz)) (v4 := none) (v5 := none) (v6 := none) with ⟨ρ', S', e, L', v7, v8, v9, v10, v11, v12, rfl, rfl, G', pf, cl, hl', hc⟩ | ⟨d, S', e, rfl, hno⟩
  · have q4 : frz (.loc 1) (mS (some (.lst ((idles sz).map mD))) L') = .ok (.lst (L'.map mD)) [some (.lst ((idles sz).map mD)), none] := frz_at rfl
    have start : ∀ k : Env → Store → SRes, (sAsg (eNew c1__law_closed_moves) (gName 3) [some (szD sz), some (.lst (mv.map mD)), some (.int (most : Nat)), none, none, none, none, none, none, none, none, none, none] []).seq k = k [some (szD sz), some (.lst (mv.map mD)), some (.int (most : Nat)), some (.loc 0), none, none, none, none, none, none, none, none, none] [some (.lst ((idles sz).map mD))] := by
      intro k
      simp_arith [q1]
    by_cases h : L'.length ≤ most
    · refine ⟨.lst (L'.map mD), .inr ⟨L', rfl, h, G'.nd, G'.fit, fun x hx => pf.subset (hi x hx), cl.all (by omega)⟩, (fun _ _ z => by cases z), fun S => callP_ok (S1 := [some (.lst ((idles sz).map mD)), none]) ?_ pa (by simp [D.pure, mDs_pure])⟩
      have hi : (L'.length : Int) ≤ (most : Int) := by omega
      have q2 : c2__law_closed_moves _ _ = .ok (N.map mD) _ := q2
      have e : l3__law_closed_moves [some (szD sz), some (.lst (mv.map mD)), some (.int (most : Nat)), some (.loc 1), none, none, none, none, none, none, none, none, none] [some (.lst ((idles sz).map mD)), some (.lst ((idles sz ++ N).map mD))] = _ := e
      have ln : ∀ S, lenD [.lst (L'.map mD)] S = .ok (.int (L'.length : Nat)) S := fun S => by rw [len_lst, List.length_map]
      generalize mS (some (.lst ((idles sz).map mD))) L' = S0 at *
      generalize (idles sz ++ N).map mD = D1 at *
      generalize N.map mD = D2 at *
      generalize L'.map mD = D3 at *
      generalize (idles sz).map mD = D4 at *
      simp_arith [f__law_closed_moves, m__law_closed_moves, q1, q2, q3, e, q4, ln, hi, h]
    · refine ⟨.non, .inl rfl, (fun e1 e2 => by
        have e3 := hc (hcl e1)
        rw [e3, hln e1] at h
        omega), fun S => callP_ok (S1 := [some (.lst ((idles sz).map mD)), none]) ?_ pa rfl⟩
      have hi : ¬ (L'.length : Int) ≤ (most : Int) := by omega
      have q2 : c2__law_closed_moves _ _ = .ok (N.map mD) _ := q2
      have e : l3__law_closed_moves [some (szD sz), some (.lst (mv.map mD)), some (.int (most : Nat)), some (.loc 1), none, none, none, none, none, none, none, none, none] [some (.lst ((idles sz).map mD)), some (.lst ((idles sz ++ N).map mD))] = _ := e
      have ln : ∀ S, lenD [.lst (L'.map mD)] S = .ok (.int (L'.length : Nat)) S := fun S => by rw [len_lst, List.length_map]
      generalize mS (some (.lst ((idles sz).map mD))) L' = S0 at *
      generalize (idles sz ++ N).map mD = D1 at *
      generalize N.map mD = D2 at *
      generalize L'.map mD = D3 at *
      generalize (idles sz).map mD = D4 at *
      simp_arith [f__law_closed_moves, m__law_closed_moves, q1, q2, q3, e, q4, ln, hi, h]
  · refine ⟨.non, .inl rfl, (fun e1 e2 => absurd ⟨hcl e1, by rw [hln e1]; omega⟩ hno), fun S => callP_ok (S1 := S') ?_ pa rfl⟩
    have q2 : c2__law_closed_moves _ _ = .ok (N.map mD) _ := q2
    have e : l3__law_closed_moves [some (szD sz), some (.lst (mv.map mD)), some (.int (most : Nat)), some (.loc 1), none, none, none, none, none, none, none, none, none] [some (.lst ((idles sz).map mD)), some (.lst ((idles sz ++ N).map mD))] = _ := e
    generalize (idles sz ++ N).map mD = D1 at *
    generalize N.map mD = D2 at *
    generalize (idles sz).map mD = D4 at *
    simp_arith [f__law_closed_moves, m__law_closed_moves, q1, q2, q3, e]
end
/-! ### the walk of _law_world_of_moves -/
theorem key_ppM (p : Mv × Mv) : (ppD mD p).key = some (.tup [.tup [.num (p.1.x : Nat), .num (p.1.y : Nat), .tup (p.1.es.map fun e => .num (e : Nat))], .tup [.num (p.2.x : Nat), .num (p.2.y : Nat), .tup (p.2.es.map fun e => .num (e : Nat))]]) := by
  unfold ppD mD D.key
  simp [D.keyN, D.keyAllN, keys_nats]
theorem ke_ppM : KE (ppD mD) true where
  inj := fun a c h => by
    have i := ke_mv.inj
    rw [key_ppM, key_ppM] at h
    simp only [Option.some.injEq, NestedKey.tup.injEq, List.cons.injEq, and_true] at h
    obtain ⟨h1, h2⟩ := h
    have e1 := i a.1 c.1 (by rw [key_mD, key_mD]; simp only [h1])
    have e2 := i a.2 c.2 (by rw [key_mD, key_mD]; simp only [h2])
    exact Prod.ext e1 e2
  tup := fun _ a => ⟨⟨_, rfl⟩, by rw [key_ppM]; rfl⟩
  sim := fun h => by cases h
def nmD (m : Mv) : D := .tup (m.es.map zD)
theorem alike_nats : ∀ l m : List Nat, PySem.W.alikeAll (D.pyAll (l.map zD)) (D.pyAll (m.map zD)) = true
  | [], _ => by simp [D.pyAll, PySem.W.alikeAll]
  | _ :: _, [] => by simp [D.pyAll, PySem.W.alikeAll]
  | a :: l, b :: m => by
    have ih := alike_nats l m
    simp [D.pyAll, D.py, zD, PySem.W.alikeAll, PySem.W.alike] at ih ⊢
    exact ih
theorem restV_mD (us : List Nat) (src dst : Mv → Nat) (as : List Mv) : sortB (as.map (restV us mD nmD src dst)) = true := by
  have fl : D.flatAll 60 (as.map (restV us mD nmD src dst)) = true := by
    induction as with
    | nil => simp [D.flatAll]
    | cons a as ih =>
      have h1 := mD_flat 56 a
      have h2 := flat_nats 57 a.es
      have h2 : D.flatAll 58 (a.es.map zD) = true := h2
      rw [List.map_cons]
      simp only [D.flatAll, ih, Bool.and_true]
      simp [restV, numV, D.flat, D.flatAll, nmD, h1, h2]
  unfold sortB
  simp only [Bool.and_eq_true, Bool.or_eq_true]
  refine ⟨⟨fl, ?_⟩, .inl ?_⟩
  · unfold alikeB
    simp only [List.all_eq_true, List.mem_map]
    rintro _ ⟨p, _, rfl⟩ _ ⟨q, _, rfl⟩
    have h := alike_nats p.es q.es
    have h' : PySem.W.alikeAll (D.pyAll (p.es.map fun e => D.int (e : Nat))) (D.pyAll (q.es.map fun e => D.int (e : Nat))) = true := h
    simp [restV, numV, mD, nmD, D.py, D.pyAll, PySem.W.alike, PySem.W.alikeAll, h, h']
  · simp only [List.all_eq_true, List.mem_map]
    rintro _ ⟨p, _, rfl⟩
    rfl
theorem flat_zD (k : Nat) (l : List Nat) : D.flatAll (k + 1) (l.map zD) = true := flat_nats k l
theorem sortB_zD (l : List Nat) : sortB (l.map zD) = true := by
  unfold sortB
  simp only [Bool.and_eq_true, Bool.or_eq_true]
  refine ⟨⟨flat_zD 59 l, ?_⟩, .inr ?_⟩
  · unfold alikeB
    simp only [List.all_eq_true, List.mem_map]
    rintro _ ⟨p, _, rfl⟩ _ ⟨q, _, rfl⟩
    simp [zD, D.py, PySem.W.alike]
  · simp only [List.all_eq_true, List.mem_map]
    rintro _ ⟨p, _, rfl⟩
    rfl
theorem ke_zD : KE zD false := ke_nat
section
variable {sz : List Nat} {L : List Mv}
def mArr : Mv → D := arrV zD nmD Mv.x Mv.y
def mStl (sz : List Nat) (x : Nat) : D := mD (Mv.idle sz x)
def mFol (p : Mv × Mv) : D := mD (p.1.cf p.2)
def mFlR (L : List Mv) (a : Mv) : List (Mv × Mv) := (L.filter fun b => decide (a.y = b.x)).map fun b => (a, b)
def mFl (L ls : List Mv) : List (Mv × Mv) := ls.flatMap fun a => mFlR L a
theorem fresh_take {α : Type} [DecidableEq α] {l : List α} (nd : l.Nodup) {j : Nat} {a : α} (h : l[j]? = some a) : a ∉ l.take j ∧ l.take (j + 1) = l.take j ++ [a] := by
  have tk : l.take (j + 1) = l.take j ++ [a] := by rw [List.take_add_one, h]; rfl
  refine ⟨fun z => ?_, tk⟩
  have : (l.take (j + 1)).Nodup := nd.sublist (List.take_sublist _ _)
  rw [tk, List.nodup_append] at this
  exact this.2.2 a z a (by simp) rfl
theorem l1_wom (nd : L.Nodup) (hl : L.length ≤ 100) {o1 o2 : Option Ob} {v0 v3 v4 v5 v6 v7 v8 v9 v10 : Option D} :
    ∃ v5', l1__law_world_of_moves [v0, some (.lst (L.map mD)), some (.loc 0), v3, v4, v5, v6, v7, v8, v9, v10] [some (.dct false [] []), o1, o2] = .next [v0, some (.lst (L.map mD)), some (.loc 0), v3, v4, v5', v6, v7, v8, v9, v10] [some (dO true mD mArr L), o1, o2] := by
  have hb := big
  obtain ⟨ρ', S', lp, v5', rfl, rfl⟩ := loop_inv (body := fun d ρ S => ((gName 5) d ρ S).only.seq b1__law_world_of_moves) mD
    (fun j ρ S => ∃ v5, ρ = [v0, some (.lst (L.map mD)), some (.loc 0), v3, v4, v5, v6, v7, v8, v9, v10] ∧ S = [some (dO true mD mArr (L.take j)), o1, o2]) L 0
    [v0, some (.lst (L.map mD)), some (.loc 0), v3, v4, v5, v6, v7, v8, v9, v10] [some (.dct false [] []), o1, o2] ⟨_, rfl, by simp [dO]⟩ (by
      rintro j m ρ S hj ⟨v5, rfl, rfl⟩
      rw [Nat.zero_add]
      obtain ⟨fr, tk⟩ := fresh_take nd hj
      have p := ke_mv.put (S := [some (dO true mD mArr (L.take j)), o1, o2]) (l := 0) (val := mArr) rfl fr (by simp; omega)
      rw [← tk] at p
      have e : mArr m = .tup [.int (m.x : Nat), .int (m.y : Nat), .tup (m.es.map zD)] := rfl
      rw [e] at p
      simp only [List.set_cons_zero] at p
      refine ⟨_, _, .inl ?_, some (mD m), rfl, rfl⟩
      unfold b1__law_world_of_moves
      simp_arith [mD_x, mD_y, mD_es, p])
  rw [Nat.zero_add, List.take_length] at lp
  refine ⟨v5', ?_⟩
  rw [← lp]
  unfold l1__law_world_of_moves sFor
  simp_arith []
theorem l2_wom (hl : sz.length ≤ 100) (hsz : ∀ s ∈ sz, s ≤ 100) {o0 o2 : Option Ob} {v1 v2 v4 v5 v6 v7 v8 v9 v10 : Option D} :
    ∃ v6' v7', l2__law_world_of_moves [some (szD sz), v1, v2, some (.loc 1), v4, v5, v6, v7, v8, v9, v10] [o0, some (.dct false [] []), o2] = .next [some (szD sz), v1, v2, some (.loc 1), v4, v5, v6', v7', v8, v9, v10] [o0, some (dO false zD (mStl sz) (List.range sz.length)), o2] := by
  have hb := big
  obtain ⟨ρ', S', lp, v6', v7', rfl, rfl⟩ := loop_inv (body := fun d ρ S => ((gTup [gName 6, gName 7]) d ρ S).only.seq b2__law_world_of_moves) (fun p : Nat × Nat => .tup [.int (p.2 : Nat), zD p.1])
    (fun j ρ S => ∃ v6 v7, ρ = [some (szD sz), v1, v2, some (.loc 1), v4, v5, v6, v7, v8, v9, v10] ∧ S = [o0, some (dO false zD (mStl sz) (List.range j)), o2]) (sz.zipIdx 0) 0
    [some (szD sz), v1, v2, some (.loc 1), v4, v5, v6, v7, v8, v9, v10] [o0, some (.dct false [] []), o2] ⟨_, _, rfl, by simp [dO]⟩ (by
      rintro j ⟨s, x⟩ ρ S hj ⟨v6, v7, rfl, rfl⟩
      rw [Nat.zero_add]
      have hj1 : sz[j]? = some s ∧ x = j := by
        rw [List.getElem?_zipIdx] at hj
        cases hu : sz[j]? with
        | none => rw [hu] at hj; cases hj
        | some u => rw [hu] at hj; simp at hj; exact ⟨by rw [hj.1], hj.2.symm⟩
      obtain ⟨hs, rfl⟩ := hj1
      have hjl := (List.getElem?_eq_some_iff.mp hs).1
      have hs100 := hsz s (List.mem_of_getElem? hs)
      have p := ke_zD.put (S := [o0, some (dO false zD (mStl sz) (List.range x)), o2]) (l := 1) (val := mStl sz) rfl (show x ∉ List.range x by simp) (by simp; omega)
      rw [← List.range_succ] at p
      have e : mStl sz x = .tup [.int (x : Nat), .int (x : Nat), .tup ((List.range s).map zD)] := by
        unfold mStl Mv.idle mD
        dsimp only
        rw [List.getD_eq_getElem?_getD, hs]
        rfl
      rw [e] at p
      simp only [List.set_cons_zero, List.set_cons_succ] at p
      have t := fun S => tupR_n (n := s) (S := S) (by omega)
      refine ⟨_, _, .inl ?_, some (.int (x : Nat)), some (zD s), rfl, rfl⟩
      have p : putD (.loc 1) (.int (x : Nat)) (.tup [.int (x : Nat), .int (x : Nat), .tup ((List.range s).map zD)]) [o0, some (dO false zD (mStl sz) (List.range x)), o2] = .ok () [o0, some (dO false zD (mStl sz) (List.range (x + 1))), o2] := p
      unfold b2__law_world_of_moves
      simp_arith [zD, rng2, t, p])
  rw [show 0 + (sz.zipIdx 0).length = sz.length by simp] at lp
  refine ⟨v6', v7', ?_⟩
  rw [← lp]
  unfold l2__law_world_of_moves sFor
  simp_arith [szD, enumD_map]
theorem c1_wom {a b : Mv} (hb : ∀ e ∈ a.es, e < b.es.length) (hl : a.es.length ≤ 10000) {S : Store} {v0 v1 v2 v3 v4 v5 v6 v7 v10 : Option D} :
    c1__law_world_of_moves [v0, v1, v2, v3, v4, v5, v6, v7, some (mD a), some (mD b), v10] S = .ok ((a.cf b).es.map zD) S := by
  unfold c1__law_world_of_moves
  have := comp_map (vs := [10]) (it := iOf (eOp2 idxS (eVar 8) (eC (.int 2)))) (g := gName 10) (e := eOp2 idxS (eOp2 idxS (eVar 9) (eC (.int 2))) (eVar 10)) (ρ := [v0, v1, v2, v3, v4, v5, v6, v7, some (mD a), some (mD b), v10]) (S := S) (S1 := S) (xs := a.es) zD (fun e => .int (b.es.getD e 0 : Nat)) (by simp_arith [mD_es])
    (fun e he => ⟨_, rfl, by
      have h := idx_es (l := b.es) (S := S) (hb e he)
      simp_arith [wipe, mD_es, zD, h]⟩) (Nat.le_trans hl big)
  rw [this]
  unfold Mv.cf
  rw [List.map_map]
  rfl
theorem l3_wom (fit : ∀ m ∈ L, Mv.Fit sz m) (nd : L.Nodup) (hsz : ∀ s ∈ sz, s ≤ 100) (hl : L.length ≤ 100) {a : Mv} (ha : a ∈ L) {fo : List (Mv × Mv)} (hfo : fo.length ≤ 12000) (hfr : ∀ p ∈ fo, p.1 ≠ a) {o0 o1 : Option Ob} {v0 v2 v3 v5 v6 v7 v9 v10 : Option D} :
    ∃ v9', l3__law_world_of_moves [v0, some (.lst (L.map mD)), v2, v3, some (.loc 2), v5, v6, v7, some (mD a), v9, v10] [o0, o1, some (dO true (ppD mD) mFol fo)] = .next [v0, some (.lst (L.map mD)), v2, v3, some (.loc 2), v5, v6, v7, some (mD a), v9', v10] [o0, o1, some (dO true (ppD mD) mFol (fo ++ mFlR L a))] := by
  have hbig : 16777216 ≤ sizeLine := Nat.le_of_eq sizeLine_eq.symm
  let F : Nat → List (Mv × Mv) := fun j => ((L.take j).filter fun b => decide (a.y = b.x)).map fun b => (a, b)
  obtain ⟨ρ', S', lp, v9', rfl, rfl⟩ := loop_inv (body := fun d ρ S => ((gName 9) d ρ S).only.seq b3__law_world_of_moves) mD
    (fun j ρ S => ∃ v9, ρ = [v0, some (.lst (L.map mD)), v2, v3, some (.loc 2), v5, v6, v7, some (mD a), v9, v10] ∧ S = [o0, o1, some (dO true (ppD mD) mFol (fo ++ F j))]) L 0
    [v0, some (.lst (L.map mD)), v2, v3, some (.loc 2), v5, v6, v7, some (mD a), v9, v10] [o0, o1, some (dO true (ppD mD) mFol fo)] ⟨_, rfl, by simp [F]⟩ (by
      rintro j b ρ S hj ⟨v9, rfl, rfl⟩
      rw [Nat.zero_add]
      have hb := List.mem_of_getElem? hj
      have fa := fit a ha
      have fb := fit b hb
      obtain ⟨fr, tk⟩ := fresh_take nd hj
      have lF : (F j).length ≤ 100 := by
        show (((L.take j).filter _).map _).length ≤ 100
        rw [List.length_map]
        exact Nat.le_trans (List.length_filter_le _ _) (Nat.le_trans (List.length_take_le' _ _) hl)
      refine ⟨_, _, .inl ?_, some (mD b), rfl, rfl⟩
      by_cases e : a.y = b.x
      · have fs : F (j + 1) = F j ++ [(a, b)] := by
          show ((L.take (j + 1)).filter _).map _ = _
          rw [tk, List.filter_append, List.map_append]
          simp [e, F]
        have fresh : (a, b) ∉ fo ++ F j := by
          rw [List.mem_append]
          rintro (h | h)
          · exact hfr _ h rfl
          · obtain ⟨y, hy, e2⟩ := List.mem_map.mp h
            cases e2
            exact fr (List.mem_filter.mp hy).1
        have p := ke_ppM.put (S := [o0, o1, some (dO true (ppD mD) mFol (fo ++ F j))]) (l := 2) (val := mFol) rfl fresh (by rw [List.length_append]; omega)
        rw [List.append_assoc, ← fs] at p
        simp only [List.set_cons_zero, List.set_cons_succ] at p
        have bnd : ∀ e' ∈ a.es, e' < b.es.length := fun e' he => by
          rw [fb.len, ← e]
          exact fa.lt e' he
        have al : a.es.length ≤ 10000 := by
          rw [fa.len, List.getD_eq_getElem?_getD, List.getElem?_eq_getElem fa.hx]
          have := hsz _ (List.getElem_mem fa.hx)
          simp
          omega
        have q1 := fun S => c1_wom (a := a) (b := b) bnd al (S := S) (v0 := v0) (v1 := some (.lst (L.map mD))) (v2 := v2) (v3 := v3) (v4 := some (.loc 2)) (v5 := v5) (v6 := v6) (v7 := v7) (v10 := v10)
        have md : mFol (a, b) = .tup [.int (a.x : Nat), .int (b.y : Nat), .tup ((a.cf b).es.map zD)] := rfl
        rw [md] at p
        have pk : ppD mD (a, b) = .tup [mD a, mD b] := rfl
        rw [pk] at p
        generalize L.map mD = LD at *
        generalize (a.cf b).es.map zD = ED at *
        unfold b3__law_world_of_moves
        simp_arith [mD_x, mD_y, eq_int, e, q1, tupD, rd, p]
      · have fs : F (j + 1) = F j := by
          show ((L.take (j + 1)).filter _).map _ = _
          rw [tk, List.filter_append, List.map_append]
          simp [e, F]
        rw [fs]
        have e2 : ((a.y : Int) == (b.x : Int)) = false := by simp; omega
        unfold b3__law_world_of_moves
        simp_arith [mD_x, mD_y, eq_int, e2, e])
  rw [Nat.zero_add] at lp
  have fe : F L.length = mFlR L a := by
    show ((L.take L.length).filter _).map _ = _
    rw [List.take_length]
    rfl
  rw [fe] at lp
  refine ⟨v9', ?_⟩
  rw [← lp]
  unfold l3__law_world_of_moves sFor
  simp_arith []
theorem mFlR_len (L : List Mv) (a : Mv) : (mFlR L a).length ≤ L.length := by
  unfold mFlR
  rw [List.length_map]
  exact List.length_filter_le _ _
theorem mFl_len (L : List Mv) : ∀ ls : List Mv, (mFl L ls).length ≤ ls.length * L.length
  | [] => by simp [mFl]
  | a :: ls => by
    have h1 := mFl_len L ls
    have h2 := mFlR_len L a
    unfold mFl at *
    rw [List.flatMap_cons, List.length_append, List.length_cons, Nat.add_mul]
    omega
theorem mem_mFl {L ls : List Mv} {p : Mv × Mv} : p ∈ mFl L ls ↔ p.1 ∈ ls ∧ p.2 ∈ L ∧ p.1.y = p.2.x := by
  unfold mFl mFlR
  simp only [List.mem_flatMap, List.mem_map, List.mem_filter, decide_eq_true_eq]
  constructor
  · rintro ⟨a, ha, b, ⟨hb, e⟩, rfl⟩
    exact ⟨ha, hb, e⟩
  · rintro ⟨h1, h2, h3⟩
    exact ⟨p.1, h1, p.2, ⟨h2, h3⟩, rfl⟩
theorem l4_wom (fit : ∀ m ∈ L, Mv.Fit sz m) (nd : L.Nodup) (hsz : ∀ s ∈ sz, s ≤ 100) (hl : L.length ≤ 100) {o0 o1 : Option Ob} {v0 v2 v3 v5 v6 v7 v8 v9 v10 : Option D} :
    ∃ v8' v9', l4__law_world_of_moves [v0, some (.lst (L.map mD)), v2, v3, some (.loc 2), v5, v6, v7, v8, v9, v10] [o0, o1, some (.dct false [] [])] = .next [v0, some (.lst (L.map mD)), v2, v3, some (.loc 2), v5, v6, v7, v8', v9', v10] [o0, o1, some (dO true (ppD mD) mFol (mFl L L))] := by
  obtain ⟨ρ', S', lp, v8', v9', rfl, rfl⟩ := loop_inv (body := fun d ρ S => ((gName 8) d ρ S).only.seq b4__law_world_of_moves) mD
    (fun j ρ S => ∃ v8 v9, ρ = [v0, some (.lst (L.map mD)), v2, v3, some (.loc 2), v5, v6, v7, v8, v9, v10] ∧ S = [o0, o1, some (dO true (ppD mD) mFol (mFl L (L.take j)))]) L 0
    [v0, some (.lst (L.map mD)), v2, v3, some (.loc 2), v5, v6, v7, v8, v9, v10] [o0, o1, some (.dct false [] [])] ⟨_, _, rfl, by simp [dO, mFl]⟩ (by
      rintro j a ρ S hj ⟨v8, v9, rfl, rfl⟩
      rw [Nat.zero_add]
      have ha := List.mem_of_getElem? hj
      obtain ⟨fr, tk⟩ := fresh_take nd hj
      have h1 := mFl_len L (L.take j)
      have h2 : (L.take j).length * L.length ≤ 100 * 100 := Nat.mul_le_mul (Nat.le_trans (List.length_take_le' _ _) hl) hl
      obtain ⟨v9', e⟩ := l3_wom fit nd hsz hl ha (fo := mFl L (L.take j)) (by omega) (fun p hp z => fr (z ▸ (mem_mFl.mp hp).1)) (o0 := o0) (o1 := o1) (v0 := v0) (v2 := v2) (v3 := v3) (v5 := v5) (v6 := v6) (v7 := v7) (v9 := v9) (v10 := v10)
      have fe : mFl L (L.take j) ++ mFlR L a = mFl L (L.take (j + 1)) := by
        rw [tk]
        unfold mFl
        rw [List.flatMap_append]
        simp
      rw [fe] at e
      refine ⟨_, _, .inl ?_, some (mD a), v9', rfl, rfl⟩
      simp only [gName, SRes.only_next, SRes.seq_next]
      exact e)
  rw [Nat.zero_add, List.take_length] at lp
  refine ⟨v8', v9', ?_⟩
  rw [← lp]
  unfold l4__law_world_of_moves sFor
  simp_arith []
theorem wom_ok (Z : Mvs sz L) (hz : sz.length ≤ 100) (hsz : ∀ s ∈ sz, s ≤ 100) (hl : L.length ≤ 100) :
    ∃ (W : Wd) (d1 d2 : D), IsCat W ∧ ∀ S, callP f__law_world_of_moves [szD sz, .lst (L.map mD)] S = .ok (.tup [W.D, d1, d2]) S := by
  have hb := big
  obtain ⟨us, al, pu, nd, mem, C, e⟩ := named_ok (encN := nmD) (fl := mFl L L) ke_zD ke_mv ke_ppM Z.ac (sortB_zD _) (fun us => restV_mD us _ _ _) (by omega) (fun a b => mem_mFl) (fun t => rfl) mD_pure (fun m => by
    have : D.pureAll (m.es.map zD) = true := pureAll_map fun x _ => rfl
    simpa [nmD, D.pure] using this)
  obtain ⟨v5, q1⟩ := l1_wom Z.nd hl (o1 := some (.dct false [] [])) (o2 := some (.dct false [] [])) (v0 := some (szD sz)) (v3 := some (.loc 1)) (v4 := some (.loc 2)) (v5 := none) (v6 := none) (v7 := none) (v8 := none) (v9 := none) (v10 := none)
  have f1 : frz (.loc 0) [some (dO true mD mArr L), some (.dct false [] []), some (.dct false [] [])] = .ok (dD true mD mArr L) [none, some (.dct false [] []), some (.dct false [] [])] := frz_atD rfl
  obtain ⟨v6, v7, q2⟩ := l2_wom hz hsz (o0 := none) (o2 := some (.dct false [] [])) (v1 := some (.lst (L.map mD))) (v2 := some (dD true mD mArr L)) (v4 := some (.loc 2)) (v5 := v5) (v6 := none) (v7 := none) (v8 := none) (v9 := none) (v10 := none)
  have f2 : frz (.loc 1) [none, some (dO false zD (mStl sz) (List.range sz.length)), some (.dct false [] [])] = .ok (dD false zD (mStl sz) (List.range sz.length)) [none, none, some (.dct false [] [])] := frz_atD rfl
  obtain ⟨v8, v9, q3⟩ := l4_wom Z.fit Z.nd hsz hl (o0 := none) (o1 := none) (v0 := some (szD sz)) (v2 := some (dD true mD mArr L)) (v3 := some (dD false zD (mStl sz) (List.range sz.length))) (v5 := v5) (v6 := v6) (v7 := v7) (v8 := none) (v9 := none) (v10 := none)
  have f3 : frz (.loc 2) [none, none, some (dO true (ppD mD) mFol (mFl L L))] = .ok (dD true (ppD mD) mFol (mFl L L)) [none, none, none] := frz_atD rfl
  have e : ∀ S, callP f__law_named [.lst ((List.range sz.length).map zD), dD true mD mArr L, dD false zD (mStl sz) (List.range sz.length), dD true (ppD mD) mFol (mFl L L)] S = .ok (.tup [(namW us al Mv.x Mv.y Mv.cf).D, dD false zD (numV us) us, dD true mD (numV al) al]) S := e
  have ls : ∀ S, lstR [.rng 0 (sz.length : Nat)] S = .ok ((List.range sz.length).map zD) S := fun S => lstR_nat (W := ⟨0, sz.length, fun _ => 0, fun _ => 0, fun _ _ => 0⟩) (by show sz.length ≤ 10000; omega)
  have ln : ∀ S, lenD [szD sz] S = .ok (.int (sz.length : Nat)) S := fun S => by unfold szD; rw [len_lst, List.length_map]
  have q4 : (dD false zD (numV us) us).pure = true := dD_pure (fun _ => rfl) fun a => rfl
  have q5 : (dD true mD (numV al) al).pure = true := dD_pure mD_pure fun a => rfl
  refine ⟨_, dD false zD (numV us) us, dD true mD (numV al) al, C, fun S => callP_ok (S1 := [none, none, none]) ?_ (by
    have : D.pureAll (sz.map zD) = true := pureAll_map fun x _ => rfl
    simp [D.pureAll, D.pure, szD, this, mDs_pure]) (by simp [D.pure, D.pureAll, wd_pure, q4, q5])⟩
  generalize (List.range sz.length).map zD = Z0 at *
  generalize szD sz = Z1 at *
  generalize L.map mD = Z2 at *
  generalize dD true mD mArr L = Z3 at *
  generalize dD false zD (mStl sz) (List.range sz.length) = Z4 at *
  generalize dD true (ppD mD) mFol (mFl L L) = Z5 at *
  generalize [some (dO true mD mArr L), some (.dct false [] []), some (.dct false [] [])] = S1 at *
  generalize [none, some (dO false zD (mStl sz) (List.range sz.length)), some (Ob.dct false [] [])] = S2 at *
  generalize [none, none, some (dO true (ppD mD) mFol (mFl L L))] = S3 at *
  simp_arith [f__law_world_of_moves, m__law_world_of_moves, eDict, q1, f1, q2, f2, q3, f3, rng2, ln, ls, e]
end
end Mi
set_option linter.all false
set_option maxRecDepth 100000
namespace Mi
open PySem L2 L_TE
local macro_rules | `(tactic| simp_arith [$ls,*]) => `(tactic| simp [runF, sSeq, sIf, sAsg, sRet, sRetN, sNext, sDrop, sBrk, sCont, sPar, gName, gTup, gSeq, gSub, eOp1, eOp2, eVar, eC, eBlt, lBlt, lOp1, lOp2, sl3, aOne, aCons, aNil, eTup, lOf, eFrz, eNew, eIf, eB, tB, tNot, tAnd, tOr, tOp2, tChain, eAnd, eOr, eCall, eMth, Res.toS, SRes.seq, SRes.only, Res.bind, iOf, items, iRange1, iRange2, iEnum, enumOf, range1, range2, sFrz, b2, i2, i2c, gtD, ltD, leD, geD, subD, mulD, modD, divD, intD, isN, notN, D.isNon, negD, sizeLine_eq, $ls,*])
/-! ### the walk of _law_drawn_moves -/
theorem Nx.less {S S' : Store} {l : Nat} (h : Nx S S' l) {j : Nat} (hj : j ≠ l) : S'[j]? = S[j]? := h.oth j hj
section
variable {k l : Nat} {sz : List Nat}
theorem c1_dmoves {n : Nat} {S : Store} (h : Dw (k + n) l S) (hn : n ≤ 100) {v1 v2 v4 v5 v6 v7 v8 v9 v10 : Option D} :
    ∃ (zs : List Nat) (S' : Store), zs.length = n ∧ (∀ s ∈ zs, 1 ≤ s ∧ s ≤ 3) ∧ c1__law_drawn_moves [some (.loc l), v1, v2, some (.int (n : Nat)), v4, v5, v6, v7, v8, v9, v10] S = .ok (zs.map zD) S' ∧ Dw k l S' ∧ Nx S S' l := by
  have hb := big
  obtain ⟨zs, S', h1, h2, h3, h4, h5⟩ := lc_val (vs := [5]) (g := gName 5) (e := eOp2 addD (eC (.int 1)) (eCall callS 2 f__law_draw (aCons (eVar 0) (aCons (eC (.int 3)) aNil)))) (ρ := [some (.loc l), v1, v2, some (.int (n : Nat)), v4, v5, v6, v7, v8, v9, v10])
    (fun i : Nat => D.int (i : Nat)) zD (fun s => 1 ≤ s ∧ s ≤ 3) (fun i T => Dw (k + i) l T ∧ Nx S T l) (List.range n) [] S ⟨by rw [List.length_range]; exact h, Nx.refl _ _⟩ (by
      rintro x hx i T ⟨d, nx⟩
      obtain ⟨r, T', e, hr, d', nx'⟩ := draw_call (b := 3) d (by decide) (by decide)
      refine ⟨_, rfl, 1 + r, T', ?_, ⟨by omega, by omega⟩, d', nx.trans nx'⟩
      simp_arith [wipe, e, add_int, zD]) (by simp; omega)
  rw [List.length_range] at h1
  refine ⟨zs, S', h1, h2, ?_, h4, h5⟩
  unfold c1__law_drawn_moves lComp
  rw [walk_n (S1 := S) (m := n) (by omega) (by simp_arith [])]
  exact h3
theorem c2_dmoves {x y : Nat} {S : Store} (h : Dw (k + 3) l S) (hx : x < sz.length) (hy : y < sz.length) (hsz : ∀ s ∈ sz, 1 ≤ s ∧ s ≤ 3) {v1 v2 v3 v6 v7 v9 v10 : Option D} :
    ∃ (es : List Nat) (S' : Store), es.length = sz.getD x 0 ∧ (∀ e ∈ es, e < sz.getD y 0) ∧ c2__law_drawn_moves [some (.loc l), v1, v2, v3, some (szD sz), some (.int (x : Nat)), v6, v7, some (.int (y : Nat)), v9, v10] S = .ok (es.map zD) S' ∧ Dw k l S' ∧ Nx S S' l := by
  have hb := big
  have gx : sz.getD x 0 ∈ sz := by
    rw [List.getD_eq_getElem?_getD, List.getElem?_eq_getElem hx]
    exact List.getElem_mem hx
  have gy : sz.getD y 0 ∈ sz := by
    rw [List.getD_eq_getElem?_getD, List.getElem?_eq_getElem hy]
    exact List.getElem_mem hy
  have hsx := hsz _ gx
  have hsy := hsz _ gy
  obtain ⟨zs, S', h1, h2, h3, h4, h5⟩ := lc_val (vs := [9]) (g := gName 9) (e := eCall callS 2 f__law_draw (aCons (eVar 0) (aCons (eOp2 idxS (eVar 4) (eVar 8)) aNil))) (ρ := [some (.loc l), v1, v2, v3, some (szD sz), some (.int (x : Nat)), v6, v7, some (.int (y : Nat)), v9, v10])
    (fun i : Nat => D.int (i : Nat)) zD (fun e => e < sz.getD y 0) (fun i T => Dw (k + i) l T ∧ Nx S T l) (List.range (sz.getD x 0)) [] S ⟨by rw [List.length_range]; exact h.less (by omega), Nx.refl _ _⟩ (by
      rintro z hz i T ⟨d, nx⟩
      obtain ⟨r, T', e, hr, d', nx'⟩ := draw_call (b := ((sz.getD y 0 : Nat) : Int)) d (by omega) (by omega)
      refine ⟨_, rfl, r, T', ?_, by omega, d', nx.trans nx'⟩
      have ix := idx_sz (S := T) hy
      simp_arith [wipe, ix, e, zD, -List.getD_eq_getElem?_getD]) (by simp [-List.getD_eq_getElem?_getD]; omega)
  rw [List.length_range] at h1
  refine ⟨zs, S', h1, h2, ?_, h4, h5⟩
  unfold c2__law_drawn_moves lComp
  have ix := idx_sz (S := S) hx
  rw [walk_n (S1 := S) (m := sz.getD x 0) (by omega) (by simp_arith [ix, -List.getD_eq_getElem?_getD])]
  exact h3
/-- the store while moves are drawn: the list lies at p -/
structure Mk (k l p : Nat) (sz : List Nat) (j : Nat) (S0 T : Store) (mv : List Mv) : Prop where
  dw : Dw k l T
  len : T.length = S0.length
  at_ : T[p]? = some (some (.lst (mv.map mD)))
  oth : ∀ i, i ≠ l → i ≠ p → T[i]? = S0[i]?
  fit : ∀ m ∈ mv, Mv.Fit sz m
  cnt : mv.length = j
theorem under_mD (n : Nat) (m : Mv) : (mD m).under n = true := by
  have : D.underAll n (m.es.map fun e => D.int (e : Nat)) = true := underAll_map fun x _ => rfl
  unfold mD
  simp [D.under, D.underAll, this]
theorem ok_set {T : Store} {p : Nat} {L : List D} (h : Ok T) (hL : D.underAll T.length L = true) : Ok (T.set p (some (.lst L))) := by
  unfold Ok at *
  rw [List.length_set, List.all_eq_true]
  intro o ho
  rcases List.mem_or_eq_of_mem_set ho with h1 | h1
  · exact List.all_eq_true.mp h o h1
  · rw [h1]
    exact hL
theorem Dr.set {T : Store} {p : Nat} {o : Option Ob} (h : Dr k T l) (hp : l ≠ p) : Dr k (T.set p o) l := by
  obtain ⟨a, s, cs, q, e, h0, h1, hc⟩ := h.ex
  exact ⟨⟨a, s, cs, q, by rw [List.getElem?_set_ne (Ne.symm hp)]; exact e, h0, h1, hc⟩⟩
theorem b1_dmoves {p j n : Nat} {S0 T : Store} {mv : List Mv} (M : Mk (k + 5) l p sz j S0 T mv) (hlp : l ≠ p) (hn : n = sz.length) (hn0 : 0 < n) (hn2 : n ≤ 100) (hj : j ≤ 100) (hsz : ∀ s ∈ sz, 1 ≤ s ∧ s ≤ 3) {v1 v2 v5 v7 v8 v9 v10 : Option D} :
    ∃ (T' : Store) (mv' : List Mv) (v5' v8' : Option D), b1__law_drawn_moves [some (.loc l), v1, v2, some (.int (n : Nat)), some (szD sz), v5, some (.loc p), v7, v8, v9, v10] T = .next [some (.loc l), v1, v2, some (.int (n : Nat)), some (szD sz), v5', some (.loc p), v7, v8', v9, v10] T' ∧ Mk k l p sz (j + 1) S0 T' mv' := by
  have hb := big
  obtain ⟨x, T1, e1, hx, d1, x1⟩ := draw_call (b := (n : Int)) (M.dw.less (show (k + 4) + 1 ≤ _ by omega)) (by omega) (by omega)
  obtain ⟨y, T2, e2, hy, d2, x2⟩ := draw_call (b := (n : Int)) (d1.less (show (k + 3) + 1 ≤ _ by omega)) (by omega) (by omega)
  obtain ⟨es, T3, g1, g2, e3, d3, x3⟩ := c2_dmoves (sz := sz) (x := x) (y := y) d2 (by omega) (by omega) hsz (v1 := v1) (v2 := v2) (v3 := some (.int (n : Nat))) (v6 := some (.loc p)) (v7 := v7) (v9 := v9) (v10 := v10)
  have X := (x1.trans x2).trans x3
  have a3 : T3[p]? = some (some (.lst (mv.map mD))) := (X.oth p (Ne.symm hlp)).trans M.at_
  have a2 : T2[p]? = some (some (.lst (mv.map mD))) := ((x1.trans x2).oth p (Ne.symm hlp)).trans M.at_
  have q1 := isL_at a2
  have q2 := app_at (v := mD ⟨x, y, es⟩) a3 (by rw [List.length_map, M.cnt]; omega)
  have pl : p < T3.length := (List.getElem?_eq_some_iff.mp a3).1
  have md : mD ⟨x, y, es⟩ = .tup [.int (x : Nat), .int (y : Nat), .tup (es.map zD)] := rfl
  refine ⟨T3.set p (some (.lst (mv.map mD ++ [mD ⟨x, y, es⟩]))), mv ++ [⟨x, y, es⟩], some (.int (x : Nat)), some (.int (y : Nat)), ?_, ?_⟩
  · rw [md] at q2 ⊢
    generalize mv.map mD = MD at *
    generalize szD sz = SZ at *
    unfold b1__law_drawn_moves
    simp_arith [e1, e2, e3, tupD, rd, q1, q2]
  · refine ⟨⟨Dr.set d3.dr hlp, ok_set d3.ok ?_⟩, ?_, ?_, fun i h1 h2 => ?_, fun m hm => ?_, ?_⟩
    · rw [← List.map_singleton (f := mD), ← List.map_append]
      exact underAll_map fun m _ => under_mD _ m
    · rw [List.length_set, X.len, M.len]
    · rw [List.getElem?_set_self pl, List.map_append]
      rfl
    · rw [List.getElem?_set_ne (Ne.symm h2), X.oth i h1, M.oth i h1 h2]
    · rcases List.mem_append.mp hm with hm | hm
      · exact M.fit m hm
      · rw [List.mem_singleton.mp hm]
        exact ⟨by show x < sz.length; omega, by show y < sz.length; omega, g1, g2⟩
    · rw [List.length_append, M.cnt]
      rfl
theorem l2_dmoves {mv : List Mv} {most t : Nat} {T : Store} (hz : sz.length ≤ 10) (hsz : ∀ s ∈ sz, s ≤ 100) (hmv : ∀ m ∈ mv, Mv.Fit sz m) (hl : mv.length ≤ 100) (hm : most ≤ 100) {v0 v1 v3 v5 v7 v8 v9 v10 : Option D} :
    (∃ ρ' S', l2__law_drawn_moves [v0, v1, some (.int (most : Nat)), v3, some (szD sz), v5, some (.lst (mv.map mD)), v7, v8, v9, v10] T = .next ρ' S' ∧ S' = T ∧ ∃ v6' v7' v10', ρ' = [v0, v1, some (.int (most : Nat)), v3, some (szD sz), v5, v6', v7', v8, v9, v10']) ∨
      (∃ d S', l2__law_drawn_moves [v0, v1, some (.int (most : Nat)), v3, some (szD sz), v5, some (.lst (mv.map mD)), v7, v8, v9, v10] T = .ret d S' ∧ S' = T ∧ ∃ L, d = .tup [szD sz, .lst (L.map mD)] ∧ L.length ≤ most ∧ Mvs sz L) := by
  have key := loop_or (body := fun d ρ S => ((gName 7) d ρ S).only.seq b2__law_drawn_moves) (fun i : Nat => D.int (i : Nat))
    (fun j ρ S => S = T ∧ ∃ (mv' : List Mv) (v7' v10' : Option D), ρ = [v0, v1, some (.int (most : Nat)), v3, some (szD sz), v5, some (.lst (mv'.map mD)), v7', v8, v9, v10'] ∧ (∀ m ∈ mv', Mv.Fit sz m) ∧ mv'.length ≤ 100)
    (fun d S => S = T ∧ ∃ L, d = .tup [szD sz, .lst (L.map mD)] ∧ L.length ≤ most ∧ Mvs sz L) (List.range mv.length) 0 [v0, v1, some (.int (most : Nat)), v3, some (szD sz), v5, some (.lst (mv.map mD)), v7, v8, v9, v10] T
    ⟨rfl, mv, _, _, rfl, hmv, hl⟩ (by
      rintro j x ρ S hj ⟨rfl, mv', v7', v10', rfl, hf, hl'⟩
      obtain ⟨d, r, _, e⟩ := closed_ok hz hsz hf hl' hm
      rcases r with rfl | ⟨L, rfl, h1, h2⟩
      · have q3 : cutD (mv'.map mD) none (some (-1)) = (mv'.take (mv'.length - 1)).map mD := by
          unfold cutD
          rw [List.map_take]
          simp only [HT.sIx]
          simp
          congr 1
          omega
        refine .inl ⟨_, _, ?_, rfl, mv'.take (mv'.length - 1), some (.int (x : Nat)), some .non, rfl, fun m hm => hf m (List.mem_of_mem_take hm), Nat.le_trans (List.length_take_le' _ _) hl'⟩
        generalize szD sz = SZ at *
        unfold b2__law_drawn_moves
        simp_arith [e, cutL, rd, oNone, oSome, negD, q3]
      · refine .inr ⟨_, _, ?_, rfl, L, rfl, h1, h2⟩
        generalize szD sz = SZ at *
        unfold b2__law_drawn_moves
        simp_arith [e])
  have it : l2__law_drawn_moves [v0, v1, some (.int (most : Nat)), v3, some (szD sz), v5, some (.lst (mv.map mD)), v7, v8, v9, v10] T = loop (fun d ρ S => ((gName 7) d ρ S).only.seq b2__law_drawn_moves) ((List.range mv.length).map fun i : Nat => D.int (i : Nat)) [v0, v1, some (.int (most : Nat)), v3, some (szD sz), v5, some (.lst (mv.map mD)), v7, v8, v9, v10] T := by
    unfold l2__law_drawn_moves sFor
    rw [walk_n (S1 := T) (m := mv.length) (by omega) (by simp_arith [len_lst])]
    rfl
  rw [it]
  rcases key with ⟨ρ', S', h1, rfl, mv', v7', v10', rfl, _⟩ | h
  · exact .inl ⟨_, _, h1, rfl, _, _, _, rfl⟩
  · exact .inr h
end
mutual
theorem under_le {n m : Nat} (h : n ≤ m) : ∀ d : D, d.under n = true → d.under m = true
  | .non, _ => rfl
  | .bl _, _ => rfl
  | .int _, _ => rfl
  | .str _, _ => rfl
  | .tup l, e => by
    unfold D.under at *
    exact underAll_le h l e
  | .lst l, e => by
    unfold D.under at *
    exact underAll_le h l e
  | .dct _ ks vs, e => by
    unfold D.under at *
    rw [Bool.and_eq_true] at *
    exact ⟨underAll_le h ks e.1, underAll_le h vs e.2⟩
  | .loc k, e => by
    unfold D.under at *
    rw [decide_eq_true_eq] at *
    omega
  | .rng _ _, _ => rfl
  | .clo _ l, e => by
    unfold D.under at *
    exact underAll_le h l e
theorem underAll_le {n m : Nat} (h : n ≤ m) : ∀ ds : List D, D.underAll n ds = true → D.underAll m ds = true
  | [], _ => rfl
  | d :: ds, e => by
    unfold D.underAll at *
    rw [Bool.and_eq_true] at *
    exact ⟨under_le h d e.1, underAll_le h ds e.2⟩
end
theorem obUnder_le {n m : Nat} (h : n ≤ m) (o : Option Ob) (e : obUnder n o = true) : obUnder m o = true := by
  cases o with
  | none => rfl
  | some o =>
    cases o with
    | lst l => exact underAll_le h l e
    | dct b ks vs =>
      unfold obUnder at *
      dsimp only at *
      rw [Bool.and_eq_true] at *
      exact ⟨underAll_le h ks e.1, underAll_le h vs e.2⟩
/-- one place more -/
theorem ok_snoc {T : Store} {L : List D} (h : Ok T) (hL : D.underAll (T.length + 1) L = true) : Ok (T ++ [some (.lst L)]) := by
  unfold Ok at *
  rw [List.length_append, List.length_singleton, List.all_append, Bool.and_eq_true]
  refine ⟨?_, by simp [obUnder, hL]⟩
  rw [List.all_eq_true] at *
  exact fun o ho => obUnder_le (by omega) o (h o ho)
theorem Dr.snoc {k l : Nat} {T U : Store} (h : Dr k T l) : Dr k (T ++ U) l := by
  obtain ⟨a, s, cs, q, e, h0, h1, hc⟩ := h.ex
  exact ⟨⟨a, s, cs, q, by rw [List.getElem?_append_left (List.getElem?_eq_some_iff.mp e).1]; exact e, h0, h1, hc⟩⟩
/-- a whole store again -/
theorem Dw.cut {k l n : Nat} {T S : Store} (h : Dr k T l) (hl : l < n) (hn : n = S.length) (hT : n ≤ T.length) (oS : Ok S) (oth : ∀ i, i ≠ l → i < n → T[i]? = S[i]?) : Dw k l (T.take n) ∧ Nx S (T.take n) l := by
  obtain ⟨a, s, cs, q, e, h0, h1, hc⟩ := h.ex
  have len : (T.take n).length = n := by rw [List.length_take]; omega
  have el : (T.take n)[l]? = some (some (drOb a s cs q)) := by rw [List.getElem?_take_of_lt hl]; exact e
  have nx : Nx S (T.take n) l := ⟨by rw [len, hn], fun i hi => by
    by_cases hin : i < n
    · rw [List.getElem?_take_of_lt hin]
      exact oth i hi hin
    · rw [List.getElem?_eq_none (by rw [len]; omega), List.getElem?_eq_none (by omega)]⟩
  refine ⟨⟨⟨⟨a, s, cs, q, el, h0, h1, hc⟩⟩, ?_⟩, nx⟩
  unfold Ok
  rw [List.all_eq_true]
  intro o ho
  obtain ⟨j, hj, rfl⟩ := List.getElem_of_mem ho
  by_cases ej : j = l
  · subst ej
    rw [List.getElem?_eq_getElem hj] at el
    rw [Option.some.inj el]
    exact under_dr _ _ _ _ _
  · have e3 := nx.oth j ej
    rw [List.getElem?_eq_getElem hj] at e3
    rw [nx.len]
    exact List.all_eq_true.mp oS _ (List.mem_of_getElem? e3.symm)
theorem callS_cut {f : FM} {ds : List D} {d : D} {S S1 : Store} (h : f ds S = .ok d S1) (hd : d.under S.length = true) (hl : S.length ≤ S1.length) (ok : Ok (S1.take S.length)) : callS f ds S = .ok d (S1.take S.length) := by
  unfold callS
  rw [h]
  dsimp only
  have tl : (S1.take S.length).length = S.length := by rw [List.length_take]; omega
  have ok2 : (S1.take S.length).all (obUnder S.length) = true := by
    unfold Ok at ok
    rw [tl] at ok
    exact ok
  simp [hd, ok2]
theorem idles_ok {sz : List Nat} (hz : sz.length ≤ 10) (hsz : ∀ s ∈ sz, s ≤ 100) : ∃ L : List Mv, L.length ≤ 40 ∧ Mvs sz L ∧ ∀ S, callP f__law_closed_moves [szD sz, .lst [], .int 40] S = .ok (.lst (L.map mD)) S := by
  obtain ⟨d, r, h, e⟩ := closed_ok (sz := sz) (mv := []) (most := 40) hz hsz (by simp) (by simp) (by omega)
  rcases r with rfl | ⟨L, rfl, h1, h2⟩
  · exact absurd rfl (h rfl (by omega))
  · exact ⟨L, h1, h2, e⟩
theorem drawn_moves_ok {k l t most : Nat} {S : Store} (ht : 1 ≤ t) (ht2 : t ≤ 6) (hm : most ≤ 100) (h : Dw (k + 60) l S) :
    ∃ (sz : List Nat) (L : List Mv) (S' : Store), sz.length ≤ t ∧ (∀ s ∈ sz, s ≤ 3) ∧ Mvs sz L ∧ L.length ≤ 100 ∧ callS f__law_drawn_moves [.loc l, .int (t : Nat), .int (most : Nat)] S = .ok (.tup [szD sz, .lst (L.map mD)]) S' ∧ Dw k l S' ∧ Nx S S' l := by
  have hb := big
  have hl : l < S.length := by
    obtain ⟨a, s, cs, q, e, _⟩ := h.dr.ex
    exact (List.getElem?_eq_some_iff.mp e).1
  obtain ⟨r, T1, e1, hr, d1, x1⟩ := draw_call (b := (t : Int)) (h.less (show (k + 59) + 1 ≤ _ by omega)) (by omega) (by omega)
  obtain ⟨sz, T2, hz, hsz, e2, d2, x2⟩ := c1_dmoves (k := k + 50) (n := 1 + r) (d1.less (by omega)) (by omega) (v1 := some (.int (t : Nat))) (v2 := some (.int (most : Nat))) (v4 := none) (v5 := none) (v6 := none) (v7 := none) (v8 := none) (v9 := none) (v10 := none)
  have x12 := x1.trans x2
  have l2 : T2.length = S.length := x12.len
  -- the new list
  have d3 : Dw (k + 50) l (T2 ++ [some (.lst [])]) := ⟨Dr.snoc d2.dr, ok_snoc d2.ok rfl⟩
  have l3 : (T2 ++ [some (Ob.lst [])]).length = S.length + 1 := by simp [l2]
  obtain ⟨c, T4, e4, hc, d4, x4⟩ := draw_call (b := ((1 + r : Nat) : Int) + 1) (d3.less (show (k + 49) + 1 ≤ _ by omega)) (by omega) (by omega)
  have hsz2 : ∀ s ∈ sz, s ≤ 100 := fun s hs => by have := hsz s hs; omega
  have at4 : T4[S.length]? = some (some (.lst (([] : List Mv).map mD))) := by
    rw [x4.oth _ (by omega), ← l2]
    simp
  -- the moves
  obtain ⟨ρ', T5, lp, mv, v5, v7, v8, rfl, M⟩ := loop_inv (body := fun d ρ S => ((gName 7) d ρ S).only.seq b1__law_drawn_moves) (fun i : Nat => D.int (i : Nat))
    (fun j ρ T => ∃ (mv : List Mv) (v5 v7 v8 : Option D), ρ = [some (.loc l), some (.int (t : Nat)), some (.int (most : Nat)), some (.int ((1 + r : Nat) : Int)), some (szD sz), v5, some (.loc S.length), v7, v8, none, none] ∧ Mk (k + (1 + c - j) * 5) l S.length sz j T4 T mv) (List.range (1 + c)) 0
    [some (.loc l), some (.int (t : Nat)), some (.int (most : Nat)), some (.int ((1 + r : Nat) : Int)), some (szD sz), none, some (.loc S.length), none, none, none, none] T4
    ⟨[], _, _, _, rfl, d4.less (by omega), rfl, at4, fun _ _ _ => rfl, by simp, rfl⟩ (by
      rintro j x ρ T hj ⟨mv, v5, v7, v8, rfl, M⟩
      have hjl := (List.getElem?_eq_some_iff.mp hj).1
      rw [List.length_range] at hjl
      have hx : x = j := by simpa [hjl] using hj.symm
      subst hx
      rw [Nat.zero_add] at M ⊢
      have M2 : Mk (k + (1 + c - (x + 1)) * 5 + 5) l S.length sz x T4 T mv := ⟨M.dw.less (by omega), M.len, M.at_, M.oth, M.fit, M.cnt⟩
      obtain ⟨T', mv', v5', v8', e, M'⟩ := b1_dmoves M2 (by omega) hz.symm (by omega) (by omega) (by omega) hsz (v1 := some (.int (t : Nat))) (v2 := some (.int (most : Nat))) (v5 := v5) (v7 := some (.int (x : Nat))) (v8 := v8) (v9 := none) (v10 := none)
      refine ⟨_, T', .inl ?_, mv', v5', some (.int (x : Nat)), v8', rfl, M'⟩
      simp only [gName, SRes.only_next, SRes.seq_next, List.set_cons_succ, List.set_cons_zero]
      exact e)
  rw [List.length_range, Nat.zero_add] at M
  have fz := frz_at M.at_
  have mvl : mv.length ≤ 100 := by rw [M.cnt]; omega
  have X := x12
  have oth5 : ∀ i, i ≠ l → i < S.length → (T5.set S.length none)[i]? = S[i]? := fun i h1 h2 => by
    rw [List.getElem?_set_ne (by omega), M.oth i h1 (by omega), x4.oth i h1, List.getElem?_append_left (by omega), X.oth i h1]
  have len5 : T5.length = S.length + 1 := by rw [M.len, x4.len, l3]
  obtain ⟨D5, N5⟩ := Dw.cut (k := k) (T := T5.set S.length none) (S := S) (l := l) (n := S.length) ((Dr.set M.dw.dr (by omega)).less (by omega)) hl rfl (by rw [List.length_set]; omega) h.ok oth5
  have it : l1__law_drawn_moves [some (.loc l), some (.int (t : Nat)), some (.int (most : Nat)), some (.int ((1 + r : Nat) : Int)), some (szD sz), none, some (.loc S.length), none, none, none, none] (T2 ++ [some (.lst [])]) = .next [some (.loc l), some (.int (t : Nat)), some (.int (most : Nat)), some (.int ((1 + r : Nat) : Int)), some (szD sz), v5, some (.loc S.length), v7, v8, none, none] T5 := by
    rw [← lp]
    unfold l1__law_drawn_moves sFor
    rw [walk_n (S1 := T4) (m := 1 + c) (by omega) (by
      have e4' : callS f__law_draw [.loc l, .int (((1 + r : Nat) : Int) + 1)] (T2 ++ [some (.lst [])]) = .ok (.int (c : Nat)) T4 := e4
      obtain ⟨q, hq⟩ : ∃ q : Int, q = ((1 + r : Nat) : Int) := ⟨_, rfl⟩
      rw [← hq] at e4' ⊢
      simp_arith [add_int, e4'])]
    rfl
  have e2 : c1__law_drawn_moves _ T1 = .ok (sz.map zD) T2 := e2
  have und : ∀ L : List Mv, (D.tup [szD sz, .lst (L.map mD)]).under S.length = true := fun L => by
    have u1 : D.underAll S.length (sz.map zD) = true := underAll_map fun x _ => rfl
    have u2 : D.underAll S.length (L.map mD) = true := underAll_map fun x _ => under_mD _ x
    simp [D.under, D.underAll, szD, u1, u2]
  have fin : ∀ (L : List Mv), L.length ≤ 100 → Mvs sz L → f__law_drawn_moves [.loc l, .int (t : Nat), .int (most : Nat)] S = .ok (.tup [szD sz, .lst (L.map mD)]) (T5.set S.length none) → ∃ (sz : List Nat) (L : List Mv) (S' : Store), sz.length ≤ t ∧ (∀ s ∈ sz, s ≤ 3) ∧ Mvs sz L ∧ L.length ≤ 100 ∧ callS f__law_drawn_moves [.loc l, .int (t : Nat), .int (most : Nat)] S = .ok (.tup [szD sz, .lst (L.map mD)]) S' ∧ Dw k l S' ∧ Nx S S' l := fun L h1 h2 e =>
    ⟨sz, L, _, by omega, fun s hs => (hsz s hs).2, h2, h1, callS_cut e (und L) (by rw [List.length_set]; omega) D5.ok, D5, N5⟩
  have e1' : callS f__law_draw [.loc l, .int (t : Nat)] S = .ok (.int (r : Nat)) T1 := e1
  have ad : ∀ S, addD (.int 1) (.int (r : Nat)) S = .ok (.int ((1 + r : Nat) : Int)) S := fun S => by
    rw [add_int]
    congr 2
  have lk : (T2 ++ [some (Ob.lst [])]) = T2 ++ [some (Ob.lst [])] := rfl
  obtain ⟨L0, i1, i2, i3⟩ := idles_ok (sz := sz) (by omega) hsz2
  rw [← l2] at it fz
  obtain ⟨q, hq⟩ : ∃ q : Int, q = ((1 + r : Nat) : Int) := ⟨_, rfl⟩
  rw [← hq] at it ad
  rcases l2_dmoves (sz := sz) (mv := mv) (most := most) (t := t) (T := T5.set S.length none) (by omega) hsz2 M.fit mvl hm (v0 := some (.loc l)) (v1 := some (.int (t : Nat))) (v3 := some (.int q)) (v5 := v5) (v7 := v7) (v8 := v8) (v9 := none) (v10 := none) with ⟨ρ', S', e5, rfl, v6', v7', v10', rfl⟩ | ⟨d, S', e5, rfl, L, rfl, h1, h2⟩
  · refine fin L0 (by omega) i2 ?_
    rw [← l2] at e5 ⊢
    have e2 := e2
    rw [show (some (D.int ((1 + r : Nat) : Int))) = some (D.int q) by rw [hq]] at e2
    generalize hsd : szD sz = SZ at *
    have hsd : D.lst (sz.map zD) = SZ := hsd
    generalize sz.map zD = SZL at *
    simp_arith [f__law_drawn_moves, m__law_drawn_moves, e1', ad, e2, hsd, it, fz, e5, i3]
  · refine fin L (by omega) h2 ?_
    rw [← l2] at e5 ⊢
    have e2 := e2
    rw [show (some (D.int ((1 + r : Nat) : Int))) = some (D.int q) by rw [hq]] at e2
    generalize hsd : szD sz = SZ at *
    have hsd : D.lst (sz.map zD) = SZ := hsd
    generalize sz.map zD = SZL at *
    simp_arith [f__law_drawn_moves, m__law_drawn_moves, e1', ad, e2, hsd, it, fz, e5, i3]
end Mi
set_option linter.all false
set_option maxRecDepth 100000
namespace Mi
open PySem L2 L_TE
local macro_rules | `(tactic| simp_arith [$ls,*]) => `(tactic| simp [runF, sSeq, sIf, sAsg, sRet, sRetN, sNext, sDrop, sBrk, sCont, sPar, gName, gTup, gSeq, gSub, eOp1, eOp2, eVar, eC, eBlt, lBlt, lOp1, lOp2, sl3, aOne, aCons, aNil, eTup, lOf, eFrz, eNew, eIf, eB, tB, tNot, tAnd, tOr, tOp2, tChain, eAnd, eOr, eCall, eMth, Res.toS, SRes.seq, SRes.only, Res.bind, iOf, items, iRange1, iRange2, iEnum, enumOf, range1, range2, sFrz, b2, i2, i2c, gtD, ltD, leD, geD, subD, mulD, modD, divD, intD, isN, notN, D.isNon, negD, sizeLine_eq, $ls,*])
/-! ### the walk of _law_drawn_world -/
theorem call_lturned {W : Wd} (h : W.m ≤ 10000) (S : Store) : callP f__law_turned [W.D] S = .ok W.op.D S := callP_ok (lturned_ok h) (by simp [D.pureAll, wd_pure]) (wd_pure W.op)
def dw_tail : SM := (sSeq (sIf (tOr (tOp2 gtD (eOp2 idxS (eVar 4) (eC (.int 0))) (eVar 1)) (tOp2 gtD (eBlt lenD (aOne (eOp2 idxS (eVar 4) (eC (.int 1))))) (eVar 2))) (sAsg (eCall callP 1 f__law_chain (aCons (eBlt min2 (aCons (eC (.int 2)) (aCons (eVar 1) aNil))) aNil)) (gName 4)) sNext)
    (sRet (eIf (tOp2 eqD (eCall callS 2 f__law_draw (aCons (eVar 0) (aCons (eC (.int 3)) aNil))) (eC (.int 0))) (eCall callP 1 f__law_turned (aCons (eVar 4) aNil)) (eVar 4))))
def dw_head : SM := (sIf (tOp2 ltD (eVar 3) (eC (.int 2))) (sAsg (eCall callS 2 f__law_drawn_order (aCons (eVar 0) (aCons (eVar 1) aNil))) (gName 4)) (sIf (tOp2 ltD (eVar 3) (eC (.int 6))) (sSeq (sAsg (eCall callS 3 f__law_drawn_moves (aCons (eVar 0) (aCons (eVar 1) (aCons (eVar 2) aNil)))) (gTup [(gName 5), (gName 6)]))
    (sAsg (eOp2 idxS (eCall callP 2 f__law_world_of_moves (aCons (eVar 5) (aCons (eVar 6) aNil))) (eC (.int 0))) (gName 4))) (sIf (tOp2 eqD (eVar 3) (eC (.int 6))) (sAsg (eCall callP 1 f__law_ring (aCons (eOp2 addD (eC (.int 1)) (eCall callS 2 f__law_draw (aCons (eVar 0) (aCons (eC (.int 4)) aNil)))) aNil)) (gName 4)) (sAsg (eCall callP 2 f__law_sum (aCons (eCall callP 1 f__law_ring (aCons (eOp2 addD (eC (.int 1)) (eCall callS 2 f__law_draw (aCons (eVar 0) (aCons (eC (.int 3)) aNil)))) aNil)) (aCons (eCall callP 1 f__law_chain (aCons (eCall callS 2 f__law_draw (aCons (eVar 0) (aCons (eC (.int 3)) aNil))) aNil)) aNil))) (gName 4)))))
theorem dw_split : m__law_drawn_world = sSeq (sAsg (eCall callS 2 f__law_draw (aCons (eVar 0) (aCons (eC (.int 8)) aNil))) (gName 3)) (sSeq dw_head dw_tail) := rfl
section
variable {k l t most : Nat}
theorem dwt_ok {W : Wd} {S : Store} (C : IsCat W) (hm : 3 ≤ most) (hm2 : most ≤ 100) (ht : 1 ≤ t) (ht2 : t ≤ 6) (h : Dw (k + 1) l S) {w s5 s6 : Option D} :
    ∃ (W' : Wd) (S' : Store), IsCat W' ∧ W'.n ≤ t ∧ W'.m ≤ most ∧ dw_tail [some (.loc l), some (.int (t : Nat)), some (.int (most : Nat)), w, some W.D, s5, s6] S = .ret W'.D S' ∧ Dw k l S' ∧ Nx S S' l := by
  obtain ⟨r, S', e, hr, d, x⟩ := draw_call (b := 3) h (by decide) (by decide)
  have turn : ∀ (V : Wd), IsCat V → V.n ≤ t → V.m ≤ most → ∃ (W' : Wd) (S' : Store), IsCat W' ∧ W'.n ≤ t ∧ W'.m ≤ most ∧ (sRet (eIf (tOp2 eqD (eCall callS 2 f__law_draw (aCons (eVar 0) (aCons (eC (.int 3)) aNil))) (eC (.int 0))) (eCall callP 1 f__law_turned (aCons (eVar 4) aNil)) (eVar 4))) [some (.loc l), some (.int (t : Nat)), some (.int (most : Nat)), w, some V.D, s5, s6] S = .ret W'.D S' ∧ Dw k l S' ∧ Nx S S' l := by
    intro V CV hn hm'
    have ct := fun S => call_lturned (W := V) (by omega) S
    by_cases h0 : r = 0
    · subst h0
      refine ⟨V.op, S', CV.op, hn, hm', ?_, d, x⟩
      generalize V.op.D = VO at *
      generalize V.D = VD at *
      simp_arith [e, eq_int, ct]
    · have hh : ((r : Int) == 0) = false := by simp; omega
      refine ⟨V, S', CV, hn, hm', ?_, d, x⟩
      generalize V.op.D = VO at *
      generalize V.D = VD at *
      simp_arith [e, eq_int, hh, h0]
  have g1 := fun S => wN W S
  have g2 := fun S => wEnds W S
  have ln : ∀ S, lenD [.tup ((List.range W.m).map W.eD)] S = .ok (.int (W.m : Nat)) S := fun S => by rw [len_tup]; simp
  by_cases h1 : t < W.n ∨ most < W.m
  · obtain ⟨V, CV, v1, v2, v3⟩ := chain_ok (n := min 2 t) (by omega)
    have lc : (cps (min 2 t)).length ≤ 1 := by
      obtain h | h : min 2 t = 1 ∨ min 2 t = 2 := by omega
      · rw [h]; decide
      · rw [h]; decide
    obtain ⟨W', S', w1, w2, w3, w4, w5, w6⟩ := turn V CV (by omega) (by omega)
    refine ⟨W', S', w1, w2, w3, ?_, w5, w6⟩
    rw [← w4]
    have mn : ∀ S, min2 [.int 2, .int (t : Nat)] S = .ok (.int ((min 2 t : Nat) : Int)) S := fun S => by
      unfold min2
      dsimp only
      congr 2
      omega
    unfold dw_tail
    generalize (sRet (eIf (tOp2 eqD _ _) _ _)) = TT at *
    generalize V.D = VD at *
    obtain ⟨q, hq⟩ : ∃ q : Int, q = ((min 2 t : Nat) : Int) := ⟨_, rfl⟩
    rw [← hq] at mn v3
    generalize W.D = WD at *
    generalize (List.range W.m).map W.eD = ED at *
    by_cases h3 : t < W.n
    · have h3i : (t : Int) < (W.n : Int) := by omega
      simp_arith [g1, g2, ln, h3i, h3, mn, v3]
    · have h3i : ¬ (t : Int) < (W.n : Int) := by omega
      have h4i : (most : Int) < (W.m : Int) := by omega
      have h4 : most < W.m := by omega
      simp_arith [g1, g2, ln, h3i, h3, h4i, h4, mn, v3]
  · obtain ⟨W', S', w1, w2, w3, w4, w5, w6⟩ := turn W C (by omega) (by omega)
    refine ⟨W', S', w1, w2, w3, ?_, w5, w6⟩
    rw [← w4]
    have h3i : ¬ (t : Int) < (W.n : Int) := by omega
    have h4i : ¬ (most : Int) < (W.m : Int) := by omega
    have h3 : ¬ t < W.n := by omega
    have h4 : ¬ most < W.m := by omega
    unfold dw_tail
    generalize (sRet (eIf (tOp2 eqD _ _) _ _)) = TT at *
    generalize W.D = WD at *
    generalize (List.range W.m).map W.eD = ED at *
    simp_arith [g1, g2, ln, h3i, h3, h4i, h4]
theorem dwh_ok {w : Nat} {S : Store} (hm2 : most ≤ 100) (ht : 1 ≤ t) (ht2 : t ≤ 5) (h : Dw (k + 60) l S) :
    ∃ (W : Wd) (S' : Store) (s5 s6 : Option D), IsCat W ∧ dw_head [some (.loc l), some (.int (t : Nat)), some (.int (most : Nat)), some (.int (w : Nat)), none, none, none] S = .next [some (.loc l), some (.int (t : Nat)), some (.int (most : Nat)), some (.int (w : Nat)), some W.D, s5, s6] S' ∧ Dw k l S' ∧ Nx S S' l := by
  have add1 : ∀ (r : Nat) S, addD (.int 1) (.int (r : Nat)) S = .ok (.int ((1 + r : Nat) : Int)) S := fun r S => by
    rw [add_int]
    congr 2
  by_cases h1 : w < 2
  · have h1i : (w : Int) < 2 := by omega
    have tt : t * t ≤ 5 * 5 := Nat.mul_le_mul ht2 ht2
    obtain ⟨W, S', C, hn, e, d, x⟩ := call_dorder ht2 (h.less (show k + t * t + 2 ≤ _ by omega))
    refine ⟨W, S', none, none, C, ?_, d, x⟩
    generalize W.D = WD at *
    unfold dw_head
    simp_arith [h1i, h1, e]
  · have h1i : ¬ (w : Int) < 2 := by omega
    by_cases h2 : w < 6
    · have h2i : (w : Int) < 6 := by omega
      obtain ⟨sz, L, S', hz, hsz, Z, hL, e, d, x⟩ := drawn_moves_ok ht (show t ≤ 6 by omega) hm2 h
      obtain ⟨W, d1, d2, C, ew⟩ := wom_ok Z (by omega) (fun s hs => by have := hsz s hs; omega) hL
      refine ⟨W, S', some (szD sz), some (.lst (L.map mD)), C, ?_, d, x⟩
      generalize W.D = WD at *
      generalize szD sz = SZ at *
      generalize L.map mD = LD at *
      unfold dw_head
      simp_arith [h1i, h1, h2i, h2, e, ew, idx_0]
    · have h2i : ¬ (w : Int) < 6 := by omega
      by_cases h3 : w = 6
      · have h3i : ((w : Int) == 6) = true := by simp; omega
        obtain ⟨r, S', e, hr, d, x⟩ := draw_call (b := 4) (h.less (show (k + 59) + 1 ≤ _ by omega)) (by decide) (by decide)
        obtain ⟨W, C, v1, v2, v3⟩ := ring_ok (k := 1 + r) (by omega) (by omega)
        refine ⟨W, S', none, none, C, ?_, d.less (by omega), x⟩
        have a := add1 r
        obtain ⟨q, hq⟩ : ∃ q : Int, q = ((1 + r : Nat) : Int) := ⟨_, rfl⟩
        rw [← hq] at a v3
        generalize W.D = WD at *
        unfold dw_head
        simp_arith [h1i, h1, h2i, h2, eq_int, h3i, h3, e, a, v3]
      · have h3i : ((w : Int) == 6) = false := by simp; omega
        obtain ⟨r, S1, e, hr, d, x⟩ := draw_call (b := 3) (h.less (show (k + 59) + 1 ≤ _ by omega)) (by decide) (by decide)
        obtain ⟨r', S2, e', hr', d', x'⟩ := draw_call (b := 3) (d.less (show (k + 58) + 1 ≤ _ by omega)) (by decide) (by decide)
        obtain ⟨W1, C1, v1, v2, v3⟩ := ring_ok (k := 1 + r) (by omega) (by omega)
        obtain ⟨W2, C2, u1, u2, u3⟩ := chain_ok (n := r') (by omega)
        have lc := cps_len r'
        have lc2 : r' * r' ≤ 2 * 2 := Nat.mul_le_mul (by omega) (by omega)
        obtain ⟨W, C, es⟩ := sum_ok C1 C2 (by omega) (by omega)
        refine ⟨W, S2, none, none, C, ?_, d'.less (by omega), x.trans x'⟩
        have a := add1 r
        obtain ⟨q, hq⟩ : ∃ q : Int, q = ((1 + r : Nat) : Int) := ⟨_, rfl⟩
        rw [← hq] at a v3
        generalize W.D = WD at *
        generalize W1.D = WD1 at *
        generalize W2.D = WD2 at *
        unfold dw_head
        simp_arith [h1i, h1, h2i, h2, eq_int, h3i, h3, e, a, v3, e', u3, es]
theorem drawn_world_ok {S : Store} (hm : 3 ≤ most) (hm2 : most ≤ 100) (ht : 1 ≤ t) (ht2 : t ≤ 5) (h : Dw (k + 62) l S) :
    ∃ (W : Wd) (S' : Store), IsCat W ∧ W.n ≤ t ∧ W.m ≤ most ∧ callS f__law_drawn_world [.loc l, .int (t : Nat), .int (most : Nat)] S = .ok W.D S' ∧ Dw k l S' ∧ Nx S S' l := by
  obtain ⟨w, S1, e1, hw, d1, x1⟩ := draw_call (b := 8) (h.less (show (k + 61) + 1 ≤ _ by omega)) (by decide) (by decide)
  obtain ⟨W, S2, s5, s6, C, e2, d2, x2⟩ := dwh_ok (k := k + 1) (w := w) hm2 ht ht2 (d1.less (by omega))
  obtain ⟨W', S3, C', hn, hmm, e3, d3, x3⟩ := dwt_ok C hm hm2 ht (by omega) d2 (w := some (.int (w : Nat))) (s5 := s5) (s6 := s6)
  have X := (x1.trans x2).trans x3
  refine ⟨W', S3, C', hn, hmm, callS_of ?_ (wd_under _ _) d3.ok X, d3, X⟩
  generalize W'.D = WD' at *
  generalize W.D = WD at *
  unfold f__law_drawn_world
  rw [dw_split]
  generalize dw_head = HH at *
  generalize dw_tail = TT at *
  simp_arith [e1, e2, e3]
end
/-! ### the walk of _law_begun -/
theorem cut_int (ns : List Int) (lo hi : Option Int) : ∃ cs : List Int, cutD (ns.map D.int) lo hi = cs.map D.int ∧ cs.length ≤ ns.length := by
  refine ⟨(ns.drop (HT.sIx ns.length 0 lo)).take (HT.sIx ns.length ns.length hi - HT.sIx ns.length 0 lo), ?_, ?_⟩
  · unfold cutD
    rw [List.length_map, List.map_take, List.map_drop]
  · rw [List.length_take, List.length_drop]
    omega
theorem flat_intsI (k : Nat) : ∀ l : List Int, D.flatAll (k + 1) (l.map D.int) = true
  | [] => by simp [D.flatAll]
  | a :: l => by simp [D.flatAll, D.flat, flat_intsI k l]
def ten18 : Int := 1000000000000000000
theorem pow18 (S : Store) : powD (.int 10) (.int 18) S = .ok (.int ten18) S := by
  unfold powD i2c
  dsimp only
  rw [if_pos (by decide)]
  rfl
theorem c1_begun {cs : List Int} (hl : cs.length ≤ 1000) {S : Store} {v0 v1 v3 v4 v5 : Option D} : c1__law_begun [v0, v1, some (.lst (cs.map D.int)), v3, v4, v5] S = .ok ((cs.filter fun c => decide (ten18 ≤ c)).map D.int) S := by
  have hb := big
  unfold c1__law_begun
  refine comp_of D.int _ _ (by simp_arith []) (fun c hc => ⟨_, rfl, ?_, fun _ => by simp_arith [wipe]⟩) (by omega)
  simp_arith [wipe, pow18]
theorem l1_begun {cs : List Int} {s : Int} {S : Store} {v0 v1 v3 v4 : Option D} : ∃ v4' s', l1__law_begun [v0, v1, some (.lst (cs.map D.int)), v3, v4, some (.int s)] S = .next [v0, v1, some (.lst (cs.map D.int)), v3, v4', some (.int s')] S := by
  obtain ⟨ρ', S', lp, rfl, v4', s', rfl⟩ := loop_inv (body := fun d ρ S => ((gName 4) d ρ S).only.seq b1__law_begun) D.int
    (fun j ρ T => T = S ∧ ∃ v4 s, ρ = [v0, v1, some (.lst (cs.map D.int)), v3, v4, some (.int s)]) cs 0 [v0, v1, some (.lst (cs.map D.int)), v3, v4, some (.int s)] S ⟨rfl, _, _, rfl⟩ (by
      rintro j c ρ T hj ⟨rfl, v4, s, rfl⟩
      have m1 : mulC s 48271 = true := by unfold mulC; simp
      refine ⟨_, _, .inl ?_, rfl, some (.int c), (s * 48271 + c) % 2147483647, rfl⟩
      unfold b1__law_begun
      simp_arith [m1, add_int])
  refine ⟨v4', s', ?_⟩
  rw [← lp]
  unfold l1__law_begun sFor
  simp_arith []
theorem begun_ok {ns : List Int} {k : Nat} {S : Store} (hl : ns.length ≤ 63) (hS : Ok S) : ∃ S' : Store, callF f__law_begun [.lst (ns.map D.int), .int (k : Nat)] S = .ok (.loc S.length) S' ∧ Dw 100000 S.length S' ∧ S'.length = S.length + 1 ∧ ∀ i, i < S.length → S'[i]? = S[i]? := by
  have hb := big
  obtain ⟨c1, e1, h1⟩ := cut_int ns (some (k : Int)) none
  obtain ⟨c2, e2, h2⟩ := cut_int ns none (some (k : Int))
  have cat : ∀ S, lAdd (.lst (c1.map D.int)) (.lst (c2.map D.int)) S = .ok ((c1 ++ c2).map D.int) S := fun S => by
    unfold lAdd
    simp only [rd]
    rw [if_pos (by simp only [List.length_map]; omega), List.map_append]
  have ln : (c1 ++ c2).length ≤ 126 := by rw [List.length_append]; omega
  generalize hcs : c1 ++ c2 = cs at cat ln
  have q1 := fun S => c1_begun (cs := cs) (by omega) (S := S) (v0 := some (.lst (ns.map D.int))) (v1 := some (.int (k : Nat))) (v3 := none) (v4 := none) (v5 := none)
  have gl : (cs.filter fun c => decide (ten18 ≤ c)).length ≤ 126 := Nat.le_trans (List.length_filter_le _ _) ln
  generalize (cs.filter fun c => decide (ten18 ≤ c)) = gs at q1 gl
  obtain ⟨v4, s, q2⟩ := l1_begun (cs := cs) (s := 71 + (k : Int)) (S := S) (v0 := some (.lst (ns.map D.int))) (v1 := some (.int (k : Nat))) (v3 := some (.lst (gs.map D.int))) (v4 := none)
  have cat2 : ∀ S, lAdd (.lst (cs.map D.int)) (.lst [.int (53 * (k : Int) + 11)]) S = .ok ((cs ++ [53 * (k : Int) + 11]).map D.int) S := fun S => by
    unfold lAdd
    simp only [rd]
    rw [if_pos (by simp only [List.length_map, List.length_singleton]; omega), List.map_append]
    rfl
  have m1 : mulC 53 (k : Int) = true := by unfold mulC; simp
  have fin : ∀ a : Int, f__law_begun [.lst (ns.map D.int), .int (k : Nat)] S = .ok (.loc S.length) (S ++ [some (drOb a s (cs ++ [53 * (k : Int) + 11]) 0)]) → ∃ S' : Store, callF f__law_begun [.lst (ns.map D.int), .int (k : Nat)] S = .ok (.loc S.length) S' ∧ Dw 100000 S.length S' ∧ S'.length = S.length + 1 ∧ ∀ i, i < S.length → S'[i]? = S[i]? := by
    intro a e
    refine ⟨_, by unfold callF; rw [e], ⟨⟨a, s, cs ++ [53 * (k : Int) + 11], 0, by simp, by omega, by decide, by simp⟩, ?_⟩, by simp, fun i hi => List.getElem?_append_left hi⟩
    unfold Ok at *
    rw [List.length_append, List.length_singleton, List.all_append, Bool.and_eq_true]
    refine ⟨?_, ?_⟩
    · rw [List.all_eq_true] at *
      exact fun o ho => obUnder_le (by omega) o (hS o ho)
    · rw [List.all_cons, under_dr]
      rfl
  have q5 := ne_nil (S := S) (flat_intsI 58 gs)
  cases gs with
  | nil =>
    refine fin 0 ?_
    rw [List.map_nil] at q1 q2 q5
    unfold drOb
    generalize ns.map D.int = NS at *
    generalize cs.map D.int = CS at *
    generalize (cs ++ [53 * (k : Int) + 11]).map D.int = CT at *
    generalize c1.map D.int = C1 at *
    generalize c2.map D.int = C2 at *
    simp_arith [f__law_begun, m__law_begun, cutL, rd, oSome, oNone, e1, e2, cat, q1, add_int, q2, q5, eDisp, m1, cat2]
  | cons g gs =>
    refine fin g ?_
    rw [List.map_cons] at q1 q2 q5
    unfold drOb
    generalize ns.map D.int = NS at *
    generalize cs.map D.int = CS at *
    generalize (cs ++ [53 * (k : Int) + 11]).map D.int = CT at *
    generalize c1.map D.int = C1 at *
    generalize c2.map D.int = C2 at *
    simp_arith [f__law_begun, m__law_begun, cutL, rd, oSome, oNone, e1, e2, cat, q1, add_int, q2, q5, idxL_0, eDisp, m1, cat2]
end Mi
set_option linter.all false
set_option maxRecDepth 100000
namespace Mi
open PySem L2 L_TE
/-! ### reckoning in a category -/
structure Hm (W : Wd) (x y f : Nat) : Prop where
  lt : f < W.m
  sr : W.s f = x
  tg : W.t f = y
/-- what follows, as a number -/
def Wd.cn (W : Wd) (f g : Nat) : Nat := (W.c f g).toNat
theorem Hm.of {W : Wd} {f : Nat} (h : f < W.m) : Hm W (W.s f) (W.t f) f := ⟨h, rfl, rfl⟩
section
variable {W : Wd} (C : IsCat W) {x y z w f g h : Nat}
include C
theorem IsCat.cc (hf : Hm W x y f) (hg : Hm W y z g) : W.c f g = (W.cn f g : Int) := by
  obtain ⟨k, _, e, _⟩ := C.comp f g hf.lt hg.lt (hf.tg.trans hg.sr.symm)
  unfold Wd.cn
  rw [e]
  rfl
theorem IsCat.ch (hf : Hm W x y f) (hg : Hm W y z g) : Hm W x z (W.cn f g) := by
  obtain ⟨k, hk, e, sk, tk⟩ := C.comp f g hf.lt hg.lt (hf.tg.trans hg.sr.symm)
  have : W.cn f g = k := by unfold Wd.cn; rw [e]; rfl
  rw [this]
  exact ⟨hk, sk.trans hf.sr, tk.trans hg.tg⟩
theorem IsCat.ca (hf : Hm W x y f) (hg : Hm W y z g) (hh : Hm W z w h) : W.cn (W.cn f g) h = W.cn f (W.cn g h) := by
  have e := C.assoc f g h _ _ hf.lt hg.lt hh.lt (hf.tg.trans hg.sr.symm) (hg.tg.trans hh.sr.symm) (C.cc hf hg) (C.cc hg hh)
  have e1 := C.cc (C.ch hf hg) hh
  have e2 := C.cc hf (C.ch hg hh)
  rw [e1, e2] at e
  exact Int.ofNat.inj e
theorem IsCat.hi (h : x < W.n) : Hm W x x x := ⟨Nat.lt_of_lt_of_le h C.nm, (C.ids x h).1, (C.ids x h).2⟩
theorem IsCat.hx (hf : Hm W x y f) : x < W.n ∧ y < W.n := by
  have := C.rng f hf.lt
  rw [hf.sr, hf.tg] at this
  exact this
theorem IsCat.il (hf : Hm W x y f) : W.cn x f = f := by
  have := C.unL f hf.lt
  rw [hf.sr] at this
  unfold Wd.cn
  rw [this]
  rfl
theorem IsCat.ir (hf : Hm W x y f) : W.cn f y = f := by
  have := C.unR f hf.lt
  rw [hf.tg] at this
  unfold Wd.cn
  rw [this]
  rfl
theorem IsCat.ceq {x' y' f' g' : Nat} (hf : Hm W x y f) (hg : Hm W y z g) (hf' : Hm W x' y' f') (hg' : Hm W y' z g') : W.c f g = W.c f' g' ↔ W.cn f g = W.cn f' g' := by
  rw [C.cc hf hg, C.cc hf' hg']
  omega
theorem IsCat.cval {k : Nat} (hf : Hm W x y f) (hg : Hm W y z g) : W.c f g = (k : Int) ↔ W.cn f g = k := by
  rw [C.cc hf hg]
  omega
end
theorem Hm.op {W : Wd} {x y f : Nat} (h : Hm W x y f) : Hm W.op y x f := ⟨h.lt, h.tg, h.sr⟩
theorem Hm.unop {W : Wd} {x y f : Nat} (h : Hm W.op x y f) : Hm W y x f := ⟨h.lt, h.tg, h.sr⟩
theorem cn_op (W : Wd) (f g : Nat) : W.op.cn f g = W.cn g f := rfl
/-- f is turned back by g -/
structure Inv2 (W : Wd) (f g : Nat) : Prop where
  hg : Hm W (W.t f) (W.s f) g
  fg : W.cn f g = W.s f
  gf : W.cn g f = W.t f
theorem Inv2.op {W : Wd} {f g : Nat} (h : Inv2 W f g) : Inv2 W.op f g := ⟨h.hg.op, h.gf, h.fg⟩
theorem Inv2.symm {W : Wd} {f g : Nat} (hf : f < W.m) (h : Inv2 W f g) : Inv2 W g f := ⟨⟨hf, h.hg.tg.symm, h.hg.sr.symm⟩, h.gf.trans h.hg.sr.symm, h.fg.trans h.hg.tg.symm⟩
theorem Inv2.uniq {W : Wd} (C : IsCat W) {f g g' : Nat} (hf : f < W.m) (h : Inv2 W f g) (h' : Inv2 W f g') : g = g' := by
  have a := C.ca h.hg (Hm.of hf) h'.hg
  rw [h.gf, h'.fg, C.il h'.hg, C.ir h.hg] at a
  exact a.symm
/-! ### squares -/
def Fl (W : Wd) (e m : Nat) : Prop := ∀ u v, Hm W (W.s e) (W.s m) u → Hm W (W.t e) (W.t m) v → W.cn u m = W.cn e v →
  ∃ l, Hm W (W.t e) (W.s m) l ∧ W.cn e l = u ∧ W.cn l m = v ∧ ∀ l', Hm W (W.t e) (W.s m) l' → W.cn e l' = u → W.cn l' m = v → l' = l
theorem Fl.op {W : Wd} {e m : Nat} (h : Fl W e m) : Fl W.op m e := fun u v hu hv q => by
  obtain ⟨l, h1, h2, h3, h4⟩ := h v u hv.unop hu.unop q.symm
  exact ⟨l, h1.op, h3, h2, fun l' a b c => h4 l' a.unop c b⟩
theorem Fl.unop {W : Wd} {e m : Nat} (h : Fl W.op m e) : Fl W e m := Fl.op (W := W.op) h
section
variable {W : Wd} (C : IsCat W) {e f g m : Nat}
include C
/-- a turnable arrow is filled against by all -/
theorem Fl.inv (he : e < W.m) (hf : f < W.m) (i : Inv2 W f g) : Fl W e f := fun u v hu hv q => by
  have He := Hm.of he
  have Hf := Hm.of hf
  refine ⟨W.cn v g, C.ch hv i.hg, ?_, ?_, fun l' h1 h2 h3 => ?_⟩
  · rw [← C.ca He hv i.hg, ← q, C.ca hu Hf i.hg, i.fg, C.ir hu]
  · rw [C.ca hv i.hg Hf, i.gf, C.ir hv]
  · rw [← h3, C.ca h1 Hf i.hg, i.fg, C.ir h1]
theorem Fl.inv' (he : e < W.m) (hf : f < W.m) (i : Inv2 W f g) : Fl W f e := Fl.unop (Fl.inv C.op he hf i.op)
theorem Fl.self (hf : f < W.m) (h : Fl W f f) : ∃ g, Inv2 W f g := by
  have Hf := Hm.of hf
  have r := C.hx Hf
  obtain ⟨l, h1, h2, h3, _⟩ := h (W.s f) (W.t f) (C.hi r.1) (C.hi r.2) (by rw [C.il Hf, C.ir Hf])
  exact ⟨l, h1, h2, h3⟩
theorem Fl.comp (he : e < W.m) (hf : f < W.m) (hg : g < W.m) (q : W.t f = W.s g) (a : Fl W e f) (b : Fl W e g) : Fl W e (W.cn f g) := fun u v hu hv sq => by
  have He := Hm.of he
  have Hf : Hm W (W.s f) (W.t f) f := Hm.of hf
  have Hg : Hm W (W.t f) (W.t g) g := ⟨hg, q.symm, rfl⟩
  have Hh := C.ch Hf Hg
  have hu' : Hm W (W.s e) (W.s f) u := ⟨hu.lt, hu.sr, hu.tg.trans Hh.sr⟩
  have hv' : Hm W (W.t e) (W.t g) v := ⟨hv.lt, hv.sr, hv.tg.trans Hh.tg⟩
  have sq2 : W.cn (W.cn u f) g = W.cn e v := by rw [C.ca hu' Hf Hg]; exact sq
  have huf := C.ch hu' Hf
  obtain ⟨k, k1, k2, k3, k4⟩ := b (W.cn u f) v ⟨huf.lt, huf.sr, huf.tg.trans q⟩ hv' sq2
  have k1' : Hm W (W.t e) (W.t f) k := ⟨k1.lt, k1.sr, k1.tg.trans q.symm⟩
  obtain ⟨l, l1, l2, l3, l4⟩ := a u k hu' k1' k2.symm
  refine ⟨l, ⟨l1.lt, l1.sr, l1.tg.trans Hh.sr.symm⟩, l2, ?_, fun l' h1 h2 h3 => ?_⟩
  · rw [← C.ca l1 Hf Hg, l3, k3]
  · have h1' : Hm W (W.t e) (W.s f) l' := ⟨h1.lt, h1.sr, h1.tg.trans Hh.sr⟩
    have hk := C.ch h1' Hf
    have e1 : W.cn l' f = k := k4 _ ⟨hk.lt, hk.sr, hk.tg.trans q⟩ (by rw [← C.ca He h1' Hf, h2]) (by rw [C.ca h1' Hf Hg]; exact h3)
    exact l4 l' h1' h2 e1
theorem Fl.comp' (hm : m < W.m) (hf : f < W.m) (hg : g < W.m) (q : W.t f = W.s g) (a : Fl W f m) (b : Fl W g m) : Fl W (W.cn f g) m :=
  Fl.unop (Fl.comp C.op hm hg hf q.symm b.op a.op)
end
end Mi
set_option linter.all false
set_option maxRecDepth 100000
namespace Mi
open PySem L2 L_TE
/-! ### helpers of walks -/
theorem loop_const {α : Type} {body : D → SM} (enc : α → D) (p : α → Bool) (d : D) (J : Env → Prop) {S : Store} (xs : List α) (ρ : Env) (h : J ρ)
    (step : ∀ x ∈ xs, ∀ ρ, J ρ → (p x = true → body (enc x) ρ S = .ret d S) ∧ (p x = false → ∃ ρ', (body (enc x) ρ S = .next ρ' S ∨ body (enc x) ρ S = .cont ρ' S) ∧ J ρ')) :
    (xs.any p = true → loop body (xs.map enc) ρ S = .ret d S) ∧ (xs.any p = false → ∃ ρ', loop body (xs.map enc) ρ S = .next ρ' S ∧ J ρ') := by
  obtain ⟨h1, h2⟩ := loop_find enc p (fun _ => d) J xs ρ h step
  refine ⟨fun e => ?_, fun e => h2 ?_⟩
  · cases z : xs.find? p with
    | some x => exact h1 x z
    | none =>
      rw [List.find?_eq_none] at z
      obtain ⟨x, hx, q⟩ := List.any_eq_true.mp e
      exact absurd q (z x hx)
  · rw [List.find?_eq_none]
    intro x hx q
    have := List.any_eq_false.mp e x hx
    exact this q
/-- a block that answers d if k, and goes on else -/
theorem seq_ret {r : SRes} {k : Bool} {d : D} {S : Store} {J : Env → Prop} (h : (k = true → r = .ret d S) ∧ (k = false → ∃ ρ', r = .next ρ' S ∧ J ρ')) (f : Env → Store → SRes) (g : SRes) (hf : ∀ ρ', J ρ' → f ρ' S = g) : r.seq f = if k = true then .ret d S else g := by
  cases k with
  | true => rw [h.1 rfl]; rfl
  | false =>
    obtain ⟨ρ', e, j⟩ := h.2 rfl
    rw [e]
    exact hf ρ' j
theorem flat_zDl (k : Nat) (l : List Nat) : D.flat (k + 2) (.lst (l.map zD)) = true := by
  unfold D.flat
  exact flat_zD k l
theorem flat_zDt (k : Nat) (l : List Nat) : D.flat (k + 2) (.tup (l.map zD)) = true := by
  unfold D.flat
  exact flat_zD k l
theorem eqvAll_zD (a b : List Nat) : PyData.eqvAll (D.pyAll (a.map zD)) (D.pyAll (b.map zD)) = decide (a = b) := eqvAll_nats a b
theorem eq_nats (a b : List Nat) (S : Store) : eqD (.tup (a.map zD)) (.tup (b.map zD)) S = .ok (decide (a = b)) S := by
  unfold eqD
  simp only [rd]
  rw [if_pos (by rw [flat_zDt 58, flat_zDt 58]; rfl)]
  simp only [D.py, PyData.eqv, eqvAll_zD]
theorem ne_nats (a b : List Nat) (S : Store) : neD (.tup (a.map zD)) (.tup (b.map zD)) S = .ok (!decide (a = b)) S := by
  unfold neD
  rw [eq_nats]
  rfl
theorem any_zD (q : Nat) : ∀ R : List Nat, (D.pyAll (R.map zD)).any (fun d => PyData.eqv d (zD q).py) = decide (q ∈ R)
  | [] => by simp [D.pyAll]
  | p :: R => by
    rw [List.map_cons]
    unfold D.pyAll
    rw [List.any_cons, any_zD q R]
    have e1 : PyData.eqv (zD p).py (zD q).py = decide (p = q) := by
      simp only [zD, D.py, PyData.eqv]
      rw [Bool.eq_iff_iff]
      simp only [beq_iff_eq, decide_eq_true_eq, Int.natCast_inj]
    rw [e1]
    by_cases e : p = q
    · simp [e]
    · have e2 : ¬ q = p := fun z => e z.symm
      simp [e, e2]
theorem in_zD {q : Nat} {x : D} {R : List Nat} {S : Store} (h : rd x S = some (.lst (R.map zD)) ∨ rd x S = some (.tup (R.map zD))) : inD (.int (q : Nat)) x S = .ok (decide (q ∈ R)) S := by
  have r1 : rd (.int (q : Nat)) S = some (zD q) := rfl
  have f1 : D.flat 60 (zD q) = true := by simp [zD, D.flat]
  unfold inD
  rcases h with h | h <;> rw [r1, h] <;> dsimp only <;> rw [if_pos (by rw [f1, flat_zD 59]; rfl), any_zD]
theorem nin_zD {q : Nat} {x : D} {R : List Nat} {S : Store} (h : rd x S = some (.lst (R.map zD)) ∨ rd x S = some (.tup (R.map zD))) : ninD (.int (q : Nat)) x S = .ok (!decide (q ∈ R)) S := by
  unfold ninD
  rw [in_zD h]
  rfl
theorem eq_nil {l : List D} {S : Store} (h : D.flatAll 59 l = true) : eqD (.lst l) (.lst []) S = .ok l.isEmpty S := by
  have := ne_nil (S := S) h
  unfold neD at this
  cases e : eqD (.lst l) (.lst []) S with
  | ok b T =>
    rw [e] at this
    simp only [Res.bind_ok, Res.ok.injEq, Bool.not_eq_eq_eq_not, Bool.not_not] at this
    rw [this.1, this.2]
  | ex a b => rw [e] at this; cases this
  | bad => rw [e] at this; cases this
theorem eq_nilz (l : List Nat) (S : Store) : eqD (.lst (l.map zD)) (.lst []) S = .ok l.isEmpty S := by
  rw [eq_nil (flat_zD 58 l)]
  simp
theorem ne_nilz (l : List Nat) (S : Store) : neD (.lst (l.map zD)) (.lst []) S = .ok (!l.isEmpty) S := by
  rw [ne_nil (flat_zD 58 l)]
  simp
theorem pure_zD (l : List Nat) : D.pureAll (l.map zD) = true := pureAll_map fun _ _ => rfl
theorem idx_t {α : Type} {F : α → D} {l : List α} {i : Nat} {a : α} {S : Store} (h : l[i]? = some a) : idxS (.tup (l.map F)) (.int (i : Nat)) S = .ok (F a) S := by
  obtain ⟨hl, rfl⟩ := List.getElem?_eq_some_iff.mp h
  rw [idx_tup (by omega) (by simpa using hl)]
  simp
theorem idx_l {α : Type} {F : α → D} {l : List α} {i : Nat} {a : α} {S : Store} (h : l[i]? = some a) : idxS (.lst (l.map F)) (.int (i : Nat)) S = .ok (F a) S := by
  obtain ⟨hl, rfl⟩ := List.getElem?_eq_some_iff.mp h
  rw [idx_lst (by omega) (by simpa using hl)]
  simp
theorem big2 : 16777216 ≤ sizeLine := Nat.le_of_eq sizeLine_eq.symm
/-! ### the arrows from a thing to a thing -/
def Wd.btw2 (W : Wd) (x y : Nat) : List Nat := (List.range W.m).filter fun f => W.s f == x && W.t f == y
theorem mem_btw2 {W : Wd} {x y f : Nat} : f ∈ W.btw2 x y ↔ Hm W x y f := by
  unfold Wd.btw2
  simp only [List.mem_filter, List.mem_range, Bool.and_eq_true, beq_iff_eq]
  exact ⟨fun h => ⟨h.1, h.2.1, h.2.2⟩, fun h => ⟨h.lt, h.sr, h.tg⟩⟩
theorem btw2_nd (W : Wd) (x y : Nat) : (W.btw2 x y).Nodup := List.nodup_range.filter _
theorem btw2_len (W : Wd) (x y : Nat) : (W.btw2 x y).length ≤ W.m := Nat.le_trans (List.length_filter_le _ _) (by simp)
theorem btw2_op (W : Wd) (x y : Nat) : W.op.btw2 x y = W.btw2 y x := by
  unfold Wd.btw2
  refine List.filter_congr fun f _ => ?_
  show (W.t f == x && W.s f == y) = (W.s f == y && W.t f == x)
  exact Bool.and_comm _ _
end Mi
set_option linter.all false
set_option maxRecDepth 100000
namespace Mi
open PySem L2 L_TE
/-! ### dicts that are written at known keys, too -/
def addK {α : Type} [DecidableEq α] (ks : List α) (c : α) : List α := if c ∈ ks then ks else ks ++ [c]
def updF {α : Type} [DecidableEq α] (val : α → D) (c : α) (v : D) : α → D := fun x => if x = c then v else val x
section
variable {α : Type} [DecidableEq α] {enc : α → D} {b : Bool} (E : KE enc b) {val : α → D}
include E
theorem KE.look2 {x : D} {S : Store} {ks : List α} (h : rd x S = .some (dD b enc val ks)) (c : α) : dLook x (enc c) S = .some (if c ∈ ks then .some (val c) else none) := by
  cases b with
  | false => exact E.look h (fun z => by cases z) c
  | true =>
    cases ks with
    | cons a ks => exact E.look h (fun _ z => by cases z) c
    | nil =>
      obtain ⟨⟨l, e⟩, hk⟩ := E.tup rfl c
      have tk : toKey (.tup l) = none := rfl
      unfold dLook
      rw [h]
      unfold dD
      rw [e] at hk ⊢
      cases z : D.key (.tup l) with
      | none => rw [z] at hk; cases hk
      | some k => simp [tk, z]
theorem KE.get2 {x : D} {S : Store} {ks : List α} (h : rd x S = .some (dD b enc val ks)) (c : α) (v : D) : getD2 x [enc c, v] S = .ok (if c ∈ ks then val c else v) S := by
  unfold getD2
  dsimp only
  rw [E.look2 h c]
  by_cases e : c ∈ ks <;> simp [e]
theorem KE.isD {x : D} {S : Store} {ks : List α} (h : rd x S = .some (dD b enc val ks)) : isDct x S = true := by
  unfold isDct
  rw [h]
  rfl
theorem KE.dmap {c : α} {k : NestedKey} (h : (enc c).key = .some k) (v : D) : ∀ ks : List α, dMap k v (ks.map enc) (ks.map val) = ks.map (updF val c v)
  | [] => rfl
  | a :: ks => by
    rw [List.map_cons, List.map_cons, List.map_cons]
    unfold dMap
    rw [KE.dmap h v ks, E.keyIs h]
    unfold updF
    by_cases e : a = c <;> simp [e]
theorem KE.putU {l : Nat} {S : Store} {ks : List α} (h : S[l]? = .some (.some (dO b enc val ks))) (c : α) (v : D) (hl : ks.length < sizeLine) : putD (.loc l) (enc c) v S = .ok () (S.set l (.some (dO b enc (updF val c v) (addK ks c)))) := by
  unfold addK
  by_cases hc : c ∈ ks
  · rw [if_pos hc]
    have ne : ks.isEmpty = false := by
      cases ks with
      | nil => cases hc
      | cons _ _ => rfl
    unfold putD
    dsimp only
    rw [h]
    unfold dO
    dsimp only
    rw [if_pos (by simpa using hl), ne]
    cases b with
    | false =>
      obtain ⟨k, h1, h2⟩ := E.sim rfl c
      simp [dPutO, h1, E.get h2, hc, E.dmap h2]
    | true =>
      obtain ⟨⟨t, e⟩, _⟩ := E.tup rfl c
      obtain ⟨k, hk⟩ := E.some c
      have g := E.get (val := val) hk ks
      have dm := E.dmap (val := val) hk v ks
      rw [if_pos hc] at g
      have tk : toKey (.tup t) = none := rfl
      rw [e] at hk
      simp [dPutO, hk, e, g, tk, dm]
  · rw [if_neg hc]
    have same : dO b enc val ks = dO b enc (updF val c v) ks := by
      unfold dO
      congr 1
      refine List.map_congr_left fun x hx => ?_
      unfold updF
      rw [if_neg (fun z : x = c => hc (by rw [← z]; exact hx))]
    rw [same] at h
    have := E.put h hc hl
    have e1 : updF val c v c = v := by unfold updF; rw [if_pos rfl]
    rw [e1] at this
    exact this
end
theorem key_pairD (q : Int × Int) : (pairD q).key = some (.tup [.num q.1, .num q.2]) := by
  unfold pairD D.key
  simp [D.keyN, D.keyAllN]
theorem ke_pairD : KE pairD true where
  inj := fun a c h => by
    rw [key_pairD, key_pairD] at h
    simp at h
    exact Prod.ext h.1 h.2
  tup := fun _ a => ⟨⟨_, rfl⟩, by rw [key_pairD]; rfl⟩
  sim := fun h => by cases h
theorem snoc_rec {α : Type} {P : List α → Prop} (h0 : P []) (h1 : ∀ xs x, P xs → P (xs ++ [x])) (xs : List α) : P xs := by
  have go : ∀ ys : List α, P ys.reverse := by
    intro ys
    induction ys with
    | nil => exact h0
    | cons y ys ih => rw [List.reverse_cons]; exact h1 _ _ ih
  have := go xs.reverse
  rwa [List.reverse_reverse] at this
/-! ### counting by keys -/
def metK {α β : Type} [DecidableEq β] (key : α → β) (xs : List α) : List β := xs.foldl (fun ks x => addK ks (key x)) []
def cntK {α β : Type} [DecidableEq β] (key : α → β) (xs : List α) (p : β) : Nat := (xs.filter fun x => decide (key x = p)).length
theorem metK_snoc {α β : Type} [DecidableEq β] (key : α → β) (xs : List α) (x : α) : metK key (xs ++ [x]) = addK (metK key xs) (key x) := by
  unfold metK
  rw [List.foldl_append]
  rfl
theorem cntK_snoc {α β : Type} [DecidableEq β] (key : α → β) (xs : List α) (x : α) (p : β) : cntK key (xs ++ [x]) p = if p = key x then cntK key xs p + 1 else cntK key xs p := by
  unfold cntK
  rw [List.filter_append, List.length_append]
  by_cases e : key x = p
  · subst e
    simp
  · have e2 : ¬ p = key x := fun z => e z.symm
    simp [e, e2]
theorem mem_metK {α β : Type} [DecidableEq β] {key : α → β} {p : β} (xs : List α) : p ∈ metK key xs ↔ ∃ x ∈ xs, key x = p := by
  refine snoc_rec (P := fun xs => p ∈ metK key xs ↔ ∃ x ∈ xs, key x = p) (by simp [metK]) (fun xs x ih => ?_) xs
  · rw [metK_snoc]
    have : p ∈ addK (metK key xs) (key x) ↔ p ∈ metK key xs ∨ p = key x := by
      unfold addK
      split
      · rename_i h
        constructor
        · exact .inl
        · rintro (h2 | rfl)
          · exact h2
          · exact h
      · simp
    rw [this, ih]
    constructor
    · rintro (⟨y, hy, e⟩ | rfl)
      · exact ⟨y, by simp [hy], e⟩
      · exact ⟨x, by simp, rfl⟩
    · rintro ⟨y, hy, e⟩
      rcases List.mem_append.mp hy with hy | hy
      · exact .inl ⟨y, hy, e⟩
      · rw [List.mem_singleton.mp hy] at e
        exact .inr e.symm
theorem cntK_pos {α β : Type} [DecidableEq β] {key : α → β} {p : β} (xs : List α) (h : p ∉ metK key xs) : cntK key xs p = 0 := by
  unfold cntK
  rw [List.length_eq_zero_iff, List.filter_eq_nil_iff]
  intro x hx e
  exact h ((mem_metK xs).mpr ⟨x, hx, by simpa using e⟩)
theorem metK_len {α β : Type} [DecidableEq β] (key : α → β) (xs : List α) : (metK key xs).length ≤ xs.length := by
  refine snoc_rec (P := fun xs => (metK key xs).length ≤ xs.length) (by simp [metK]) (fun xs x ih => ?_) xs
  rw [metK_snoc]
  unfold addK
  split <;> simp <;> omega
end Mi
set_option linter.all false
set_option maxRecDepth 100000
namespace Mi
open PySem L2 L_TE
local macro_rules | `(tactic| simp_arith [$ls,*]) => `(tactic| simp [runF, sSeq, sIf, sAsg, sRet, sRetN, sNext, sDrop, sBrk, sCont, sPar, gName, gTup, gSeq, gSub, eOp1, eOp2, eVar, eC, eBlt, lBlt, lOp1, lOp2, sl3, aOne, aCons, aNil, eTup, lOf, eFrz, eNew, eIf, eB, tB, tNot, tAnd, tOr, tOp2, tChain, eAnd, eOr, eCall, eMth, Res.toS, SRes.seq, SRes.only, Res.bind, iOf, items, iRange1, iRange2, iEnum, enumOf, range1, range2, sFrz, b2, i2, i2c, gtD, ltD, leD, geD, subD, mulD, modD, divD, intD, isN, notN, D.isNon, negD, sizeLine_eq, $ls,*])
/-! ### _law_between, between -/
section
variable {W : Wd} {x y : Nat} {S : Store}
theorem lbtw_ok (h : W.m ≤ 10000) : callP f__law_between [W.D, .int (x : Nat), .int (y : Nat)] S = .ok (.lst ((W.btw2 x y).map zD)) S := by
  have c1 : ∀ S v, c1__law_between [some W.D, some (.int (x : Nat)), some (.int (y : Nat)), v] S = .ok ((W.btw2 x y).map zD) S := fun S v => by
    unfold c1__law_between
    refine comp_of zD _ zD (xs := List.range W.m) (walk_n h (by simp_arith [wEnds, len_tup])) (fun f hf => ⟨_, rfl, ?_, fun _ => by simp_arith [wipe]⟩) (by rw [List.length_range]; exact Nat.le_trans h big)
    have hf := List.mem_range.mp hf
    simp_arith [wipe, zD, wEnds, idx_rng _ hf]
    rw [Wd.eD, eq_pair, b_pair]
  refine callP_ok (S1 := []) ?_ (by simp [D.pureAll, wd_pure, D.pure]) (by simp [D.pure, pure_zD])
  unfold f__law_between m__law_between
  generalize W.D = WD at *
  simp_arith [c1]
theorem btw_ok (h : W.m ≤ 10000) : callP f_between [W.D, .int (x : Nat), .int (y : Nat)] S = .ok (.tup ((W.btw2 x y).map zD)) S := by
  have c1 : ∀ S v w, c1_between [some W.D, some (.int (x : Nat)), some (.int (y : Nat)), v, w] S = .ok ((W.btw2 x y).map zD) S := fun S v w => by
    unfold c1_between
    refine comp_of (fun f : Nat => .tup [.int (f : Nat), W.eD f]) _ zD (xs := List.range W.m) (by
      simp_arith [wEnds]
      rw [enumD_range]) (fun f hf => ⟨_, by simp_arith [wipe]; rfl, ?_, fun _ => by simp_arith [zD]⟩) (by rw [List.length_range]; exact Nat.le_trans h big)
    simp_arith []
    rw [Wd.eD, eq_pair, b_pair]
  refine callP_ok (S1 := []) ?_ (by simp [D.pureAll, wd_pure, D.pure]) (by simp [D.pure, pure_zD])
  unfold f_between m_between
  generalize W.D = WD at *
  simp_arith [c1, tupD, rd]
end
/-! ### _law_fills -/
def Wd.mids (W : Wd) (e m u v : Nat) : List Nat := (W.btw2 (W.t e) (W.s m)).filter fun l => W.c e l == (u : Int) && W.c l m == (v : Int)
def Wd.gap2 (W : Wd) (e m u v : Nat) : Bool := W.c u m == W.c e v && !((W.mids e m u v).length == 1)
def Wd.fillB (W : Wd) (e m : Nat) : Bool := !((W.btw2 (W.s e) (W.s m)).any fun u => (W.btw2 (W.t e) (W.t m)).any fun v => W.gap2 e m u v)
section
variable {W : Wd} {e m : Nat} (he : e < W.m) (hm : m < W.m) (h : W.m ≤ 4000) {S : Store}
include he hm h
theorem c1_fills {u v : Nat} {x y z w : Option D} : c1__law_fills [some W.D, some (.int (e : Nat)), some (.int (m : Nat)), x, some (.tup ((List.range W.m).map W.eD)), some (.tup ((List.range W.m).map W.rD)), some (.int (u : Nat)), some (.int (v : Nat)), y, z] S = .ok ((W.mids e m u v).map zD) S := by
  have hb := big
  have g1 := fun S => lbtw_ok (W := W) (x := W.t e) (y := W.s m) (S := S) (by omega)
  have g2 := fun S => idx_rng (S := S) W.eD he
  have g3 := fun S => idx_rng (S := S) W.eD hm
  have g4 := fun S => wDst W e S
  have g5 := fun S => wSrc W m S
  unfold c1__law_fills
  refine comp_of zD _ zD (xs := W.btw2 (W.t e) (W.s m)) ?_ (fun l hl => ⟨_, rfl, ?_, fun _ => by simp_arith [wipe]⟩) (Nat.le_trans (btw2_len _ _ _) (by omega))
  · generalize W.D = WD at *
    simp_arith [g1, g2, g3, g4, g5]
  · have ml := (mem_btw2.mp hl).lt
    have k1 := fun S => idx_rng (S := S) W.rD he
    have k2 := fun S => wRow W e ml S
    have k3 := fun S => idx_rng (S := S) W.rD ml
    have k4 := fun S => wRow W l hm S
    simp_arith [wipe, zD, k1, k2, k3, k4, eq_int]
    by_cases z : W.c e l = (u : Int) <;> simp [z]
theorem l1_fills {u : Nat} (hu : u < W.m) {x v y z : Option D} :
    ((W.btw2 (W.t e) (W.t m)).any (fun v => W.gap2 e m u v) = true → l1__law_fills [some W.D, some (.int (e : Nat)), some (.int (m : Nat)), x, some (.tup ((List.range W.m).map W.eD)), some (.tup ((List.range W.m).map W.rD)), some (.int (u : Nat)), v, y, z] S = .ret (.bl false) S) ∧
    ((W.btw2 (W.t e) (W.t m)).any (fun v => W.gap2 e m u v) = false → ∃ ρ', l1__law_fills [some W.D, some (.int (e : Nat)), some (.int (m : Nat)), x, some (.tup ((List.range W.m).map W.eD)), some (.tup ((List.range W.m).map W.rD)), some (.int (u : Nat)), v, y, z] S = .next ρ' S ∧
      ∃ v y z, ρ' = [some W.D, some (.int (e : Nat)), some (.int (m : Nat)), x, some (.tup ((List.range W.m).map W.eD)), some (.tup ((List.range W.m).map W.rD)), some (.int (u : Nat)), v, y, z]) := by
  have key := loop_const (body := fun d ρ S => ((gName 7) d ρ S).only.seq b1__law_fills) zD (fun v => W.gap2 e m u v) (.bl false) (fun ρ => ∃ v y z, ρ = [some W.D, some (.int (e : Nat)), some (.int (m : Nat)), x, some (.tup ((List.range W.m).map W.eD)), some (.tup ((List.range W.m).map W.rD)), some (.int (u : Nat)), v, y, z]) (S := S) (W.btw2 (W.t e) (W.t m))
    [some W.D, some (.int (e : Nat)), some (.int (m : Nat)), x, some (.tup ((List.range W.m).map W.eD)), some (.tup ((List.range W.m).map W.rD)), some (.int (u : Nat)), v, y, z] ⟨_, _, _, rfl⟩ (by
      rintro v hv ρ ⟨v0, y, z, rfl⟩
      have mv := (mem_btw2.mp hv).lt
      have k1 := fun S => idx_rng (S := S) W.rD hu
      have k2 := fun S => wRow W u hm S
      have k3 := fun S => idx_rng (S := S) W.rD he
      have k4 := fun S => wRow W e mv S
      have k5 := fun S y z => c1_fills he hm h (u := u) (v := v) (x := x) (y := y) (z := z) (w := none) (S := S)
      have k6 : ∀ S, lenD [.lst ((W.mids e m u v).map zD)] S = .ok (.int ((W.mids e m u v).length : Nat)) S := fun S => by rw [len_lst, List.length_map]
      have run : ((gName 7) (zD v) [some W.D, some (.int (e : Nat)), some (.int (m : Nat)), x, some (.tup ((List.range W.m).map W.eD)), some (.tup ((List.range W.m).map W.rD)), some (.int (u : Nat)), v0, y, z] S).only.seq b1__law_fills =
          if W.gap2 e m u v = true then .ret (.bl false) S else .next [some W.D, some (.int (e : Nat)), some (.int (m : Nat)), x, some (.tup ((List.range W.m).map W.eD)), some (.tup ((List.range W.m).map W.rD)), some (.int (u : Nat)), some (.int (v : Nat)), (if W.c u m = W.c e v then some (.lst ((W.mids e m u v).map zD)) else y), z] S := by
        unfold Wd.gap2
        by_cases q : W.c u m = W.c e v
        · by_cases q2 : (W.mids e m u v).length = 1
          · have q3 : (((W.mids e m u v).length : Int) == 1) = true := by simp; omega
            generalize (W.mids e m u v).map zD = MD at *
            generalize (W.mids e m u v).length = ML at *
            generalize W.D = WD at *
            unfold b1__law_fills
            simp_arith [zD, k1, k2, k3, k4, eq_int, q, k5, k6, ne_int, q3, q2]
          · have q3 : (((W.mids e m u v).length : Int) == 1) = false := by simp; omega
            generalize (W.mids e m u v).map zD = MD at *
            generalize (W.mids e m u v).length = ML at *
            generalize W.D = WD at *
            unfold b1__law_fills
            simp_arith [zD, k1, k2, k3, k4, eq_int, q, k5, k6, ne_int, q3, q2]
        · have q3 : (W.c u m == W.c e v) = false := by simpa using q
          generalize W.D = WD at *
          unfold b1__law_fills
          simp_arith [zD, k1, k2, k3, k4, eq_int, q, q3]
      rw [run]
      exact ⟨fun q => by rw [if_pos q], fun q => ⟨_, .inl (by rw [if_neg (by rw [q]; exact Bool.false_ne_true)]), _, _, _, rfl⟩⟩)
  have it : l1__law_fills [some W.D, some (.int (e : Nat)), some (.int (m : Nat)), x, some (.tup ((List.range W.m).map W.eD)), some (.tup ((List.range W.m).map W.rD)), some (.int (u : Nat)), v, y, z] S = loop (fun d ρ S => ((gName 7) d ρ S).only.seq b1__law_fills) ((W.btw2 (W.t e) (W.t m)).map zD) [some W.D, some (.int (e : Nat)), some (.int (m : Nat)), x, some (.tup ((List.range W.m).map W.eD)), some (.tup ((List.range W.m).map W.rD)), some (.int (u : Nat)), v, y, z] S := by
    have g1 := fun S => lbtw_ok (W := W) (x := W.t e) (y := W.t m) (S := S) (by omega)
    have g2 := fun S => idx_rng (S := S) W.eD he
    have g3 := fun S => idx_rng (S := S) W.eD hm
    have g4 := fun S => wDst W e S
    have g5 := fun S => wDst W m S
    unfold l1__law_fills sFor
    generalize W.D = WD at *
    simp_arith [g1, g2, g3, g4, g5]
  rw [it]
  exact key
theorem lfills_ok : callP f__law_fills [W.D, .int (e : Nat), .int (m : Nat)] S = .ok (.bl (W.fillB e m)) S := by
  refine callP_ok (S1 := []) ?_ (by simp [D.pureAll, wd_pure, D.pure]) rfl
  have key := loop_const (body := fun d ρ S => ((gName 6) d ρ S).only.seq b2__law_fills) zD (fun u => (W.btw2 (W.t e) (W.t m)).any fun v => W.gap2 e m u v) (.bl false) (fun ρ => ∃ u v y z, ρ = [some W.D, some (.int (e : Nat)), some (.int (m : Nat)), some (.int (W.n : Nat)), some (.tup ((List.range W.m).map W.eD)), some (.tup ((List.range W.m).map W.rD)), u, v, y, z]) (S := []) (W.btw2 (W.s e) (W.s m))
    [some W.D, some (.int (e : Nat)), some (.int (m : Nat)), some (.int (W.n : Nat)), some (.tup ((List.range W.m).map W.eD)), some (.tup ((List.range W.m).map W.rD)), none, none, none, none] ⟨_, _, _, _, rfl⟩ (by
      rintro u hu ρ ⟨u0, v, y, z, rfl⟩
      obtain ⟨k1, k2⟩ := l1_fills he hm h (mem_btw2.mp hu).lt (S := []) (x := some (.int (W.n : Nat))) (v := v) (y := y) (z := z)
      have st : ((gName 6) (zD u) [some W.D, some (.int (e : Nat)), some (.int (m : Nat)), some (.int (W.n : Nat)), some (.tup ((List.range W.m).map W.eD)), some (.tup ((List.range W.m).map W.rD)), u0, v, y, z] []).only.seq b2__law_fills = l1__law_fills [some W.D, some (.int (e : Nat)), some (.int (m : Nat)), some (.int (W.n : Nat)), some (.tup ((List.range W.m).map W.eD)), some (.tup ((List.range W.m).map W.rD)), some (.int (u : Nat)), v, y, z] [] := rfl
      rw [st]
      exact ⟨k1, fun q => let ⟨ρ', e1, v, y, z, e2⟩ := k2 q; ⟨ρ', .inl e1, _, _, _, _, e2⟩⟩)
  have it : l2__law_fills [some W.D, some (.int (e : Nat)), some (.int (m : Nat)), some (.int (W.n : Nat)), some (.tup ((List.range W.m).map W.eD)), some (.tup ((List.range W.m).map W.rD)), none, none, none, none] [] = loop (fun d ρ S => ((gName 6) d ρ S).only.seq b2__law_fills) ((W.btw2 (W.s e) (W.s m)).map zD) [some W.D, some (.int (e : Nat)), some (.int (m : Nat)), some (.int (W.n : Nat)), some (.tup ((List.range W.m).map W.eD)), some (.tup ((List.range W.m).map W.rD)), none, none, none, none] [] := by
    have g1 := fun S => lbtw_ok (W := W) (x := W.s e) (y := W.s m) (S := S) (by omega)
    have g2 := fun S => idx_rng (S := S) W.eD he
    have g3 := fun S => idx_rng (S := S) W.eD hm
    have g4 := fun S => wSrc W e S
    have g5 := fun S => wSrc W m S
    unfold l2__law_fills sFor
    generalize W.D = WD at *
    simp_arith [g1, g2, g3, g4, g5]
  rw [← it] at key
  have fin := seq_ret key (sRet (eC (.bl true))) (.ret (.bl true) []) (fun ρ' _ => rfl)
  have wd : W.D = .tup [.int (W.n : Nat), .tup ((List.range W.m).map W.eD), .tup ((List.range W.m).map W.rD)] := rfl
  have start : ∀ k : Env → Store → SRes, (sAsg (eVar 0) (gTup [(gName 3), (gName 4), (gName 5)]) [some W.D, some (.int (e : Nat)), some (.int (m : Nat)), none, none, none, none, none, none, none] []).seq k = k [some W.D, some (.int (e : Nat)), some (.int (m : Nat)), some (.int (W.n : Nat)), some (.tup ((List.range W.m).map W.eD)), some (.tup ((List.range W.m).map W.rD)), none, none, none, none] [] := fun k => rfl
  have sp : f__law_fills [W.D, .int (e : Nat), .int (m : Nat)] [] = (match ((l2__law_fills [some W.D, some (.int (e : Nat)), some (.int (m : Nat)), some (.int (W.n : Nat)), some (.tup ((List.range W.m).map W.eD)), some (.tup ((List.range W.m).map W.rD)), none, none, none, none] []).seq (sRet (eC (.bl true)))) with
      | .ret d S1 => .ok d S1
      | .next _ S1 => .ok .non S1
      | .ex e _ S1 => .ex e S1
      | _ => .bad) := rfl
  rw [sp, fin]
  unfold Wd.fillB
  cases (W.btw2 (W.s e) (W.s m)).any fun u => (W.btw2 (W.t e) (W.t m)).any fun v => W.gap2 e m u v <;> rfl
end
end Mi
set_option linter.all false
set_option maxRecDepth 100000
namespace Mi
open PySem L2 L_TE
local macro_rules | `(tactic| simp_arith [$ls,*]) => `(tactic| simp [runF, sSeq, sIf, sAsg, sRet, sRetN, sNext, sDrop, sBrk, sCont, sPar, gName, gTup, gSeq, gSub, eOp1, eOp2, eVar, eC, eBlt, lBlt, lOp1, lOp2, sl3, aOne, aCons, aNil, eTup, lOf, eFrz, eNew, eIf, eB, tB, tNot, tAnd, tOr, tOp2, tChain, eAnd, eOr, eCall, eMth, Res.toS, SRes.seq, SRes.only, Res.bind, iOf, items, iRange1, iRange2, iEnum, enumOf, range1, range2, sFrz, b2, i2, i2c, gtD, ltD, leD, geD, subD, mulD, modD, divD, intD, isN, notN, D.isNon, negD, sizeLine_eq, $ls,*])
section
variable {W : Wd} {e m : Nat} (he : e < W.m) (hm : m < W.m) (h : W.m ≤ 4000)
def Wd.kp (W : Wd) (e m : Nat) (l : Nat) : Int × Int := (W.c e l, W.c l m)
def cD (W : Wd) (e m : Nat) (ls : List Nat) : D := dD true pairD (fun p => .int (cntK (W.kp e m) ls p : Nat)) (metK (W.kp e m) ls)
def cO (W : Wd) (e m : Nat) (ls : List Nat) : Ob := dO true pairD (fun p => .int (cntK (W.kp e m) ls p : Nat)) (metK (W.kp e m) ls)
theorem cget {x : D} {S : Store} {ls : List Nat} (hr : rd x S = some (cD W e m ls)) (p : Int × Int) : getD2 x [pairD p, .int 0] S = .ok (.int (cntK (W.kp e m) ls p : Nat)) S := by
  rw [ke_pairD.get2 (val := fun p => .int (cntK (W.kp e m) ls p : Nat)) (ks := metK (W.kp e m) ls) hr p]
  by_cases z : p ∈ metK (W.kp e m) ls
  · rw [if_pos z]
  · rw [if_neg z, cntK_pos ls z]
    rfl
include he hm h
theorem l1_dfill {x y z w : Option D} : ∃ l' s', l1_does_fill_against [some W.D, some (.int (e : Nat)), some (.int (m : Nat)), some (.tup ((List.range W.m).map W.eD)), some (.tup ((List.range W.m).map W.rD)), some (.loc 0), x, y, z, w] [some (.dct false [] [])] =
    .next [some W.D, some (.int (e : Nat)), some (.int (m : Nat)), some (.tup ((List.range W.m).map W.eD)), some (.tup ((List.range W.m).map W.rD)), some (.loc 0), l', s', z, w] [some (cO W e m (W.btw2 (W.t e) (W.s m)))] := by
  have hb := big2
  generalize hL : W.btw2 (W.t e) (W.s m) = L
  have hLm : ∀ l ∈ L, l < W.m := fun l hl => by rw [← hL] at hl; exact (mem_btw2.mp hl).lt
  have hLl : L.length ≤ 4000 := by rw [← hL]; exact Nat.le_trans (btw2_len _ _ _) h
  obtain ⟨ρ', S', lp, l', s', rfl, rfl⟩ := loop_inv (body := fun d ρ S => ((gName 6) d ρ S).only.seq b1_does_fill_against) zD
    (fun j ρ T => ∃ l' s', ρ = [some W.D, some (.int (e : Nat)), some (.int (m : Nat)), some (.tup ((List.range W.m).map W.eD)), some (.tup ((List.range W.m).map W.rD)), some (.loc 0), l', s', z, w] ∧ T = [some (cO W e m (L.take j))]) L 0
    [some W.D, some (.int (e : Nat)), some (.int (m : Nat)), some (.tup ((List.range W.m).map W.eD)), some (.tup ((List.range W.m).map W.rD)), some (.loc 0), x, y, z, w] [some (.dct false [] [])] ⟨_, _, rfl, by simp [cO, dO, metK]⟩ (by
      rintro j l ρ T hj ⟨l', s', rfl, rfl⟩
      rw [Nat.zero_add]
      have tk : L.take (j + 1) = L.take j ++ [l] := by rw [List.take_add_one, hj]; rfl
      have hl := hLm l (List.mem_of_getElem? hj)
      have g1 := fun S => idx_rng (S := S) W.rD he
      have g2 := fun S => wRow W e hl S
      have g3 := fun S => idx_rng (S := S) W.rD hl
      have g4 := fun S => wRow W l hm S
      have q1 := cget (W := W) (e := e) (m := m) (x := .loc 0) (S := [some (cO W e m (L.take j))]) (ls := L.take j) rfl (W.kp e m l)
      have q0 := ke_pairD.isD (x := .loc 0) (S := [some (cO W e m (L.take j))]) (val := fun p => .int (cntK (W.kp e m) (L.take j) p : Nat)) (ks := metK (W.kp e m) (L.take j)) rfl
      have q2 := ke_pairD.putU (l := 0) (S := [some (cO W e m (L.take j))]) (val := fun p => .int (cntK (W.kp e m) (L.take j) p : Nat)) (ks := metK (W.kp e m) (L.take j)) rfl (W.kp e m l) (.int ((cntK (W.kp e m) (L.take j) (W.kp e m l) : Nat) + 1)) (by
        have := metK_len (W.kp e m) (L.take j)
        have : (L.take j).length ≤ L.length := List.length_take_le' _ _
        omega)
      have new : dO true pairD (updF (fun p => .int (cntK (W.kp e m) (L.take j) p : Nat)) (W.kp e m l) (.int ((cntK (W.kp e m) (L.take j) (W.kp e m l) : Nat) + 1))) (addK (metK (W.kp e m) (L.take j)) (W.kp e m l)) = cO W e m (L.take (j + 1)) := by
        unfold cO
        rw [tk, metK_snoc]
        congr 1
        funext p
        unfold updF
        rw [cntK_snoc]
        by_cases z : p = W.kp e m l
        · rw [if_pos z, if_pos z, z]
          rfl
        · rw [if_neg z, if_neg z]
      rw [new] at q2
      simp only [List.set_cons_zero] at q2
      have pk : pairD (W.kp e m l) = .tup [.int (W.c e l), .int (W.c l m)] := rfl
      rw [pk] at q1 q2
      refine ⟨_, _, .inl ?_, some (.int (l : Nat)), some (.tup [.int (W.c e l), .int (W.c l m)]), rfl, rfl⟩
      generalize [some (cO W e m (L.take j))] = S0 at *
      generalize [some (cO W e m (L.take (j + 1)))] = S1 at *
      generalize cntK (W.kp e m) (L.take j) (W.kp e m l) = cc at *
      generalize W.D = WD at *
      unfold b1_does_fill_against
      simp_arith [zD, g1, g2, g3, g4, q0, q1, add_int, q2])
  rw [Nat.zero_add, List.take_length] at lp
  refine ⟨l', s', ?_⟩
  rw [← lp]
  have g1 := fun S => btw_ok (W := W) (x := W.t e) (y := W.s m) (S := S) (by omega)
  rw [hL] at g1
  have g2 := fun S => idx_rng (S := S) W.eD he
  have g3 := fun S => idx_rng (S := S) W.eD hm
  have g4 := fun S => wDst W e S
  have g5 := fun S => wSrc W m S
  unfold l1_does_fill_against sFor
  generalize W.D = WD at *
  simp_arith [g1, g2, g3, g4, g5]
omit he hm h in
theorem cnt_mids {u v : Nat} : cntK (W.kp e m) (W.btw2 (W.t e) (W.s m)) ((u : Int), (v : Int)) = (W.mids e m u v).length := by
  unfold cntK Wd.mids
  congr 1
  refine List.filter_congr fun l _ => ?_
  unfold Wd.kp
  rw [Bool.eq_iff_iff]
  simp only [decide_eq_true_eq, Prod.mk.injEq, Bool.and_eq_true, beq_iff_eq]
theorem l2_dfill {S : Store} {u : Nat} (hu : u < W.m) {x y z : Option D} :
    ((W.btw2 (W.t e) (W.t m)).any (fun v => W.gap2 e m u v) = true → l2_does_fill_against [some W.D, some (.int (e : Nat)), some (.int (m : Nat)), some (.tup ((List.range W.m).map W.eD)), some (.tup ((List.range W.m).map W.rD)), some (cD W e m (W.btw2 (W.t e) (W.s m))), x, y, some (.int (u : Nat)), z] S = .ret (.bl false) S) ∧
    ((W.btw2 (W.t e) (W.t m)).any (fun v => W.gap2 e m u v) = false → ∃ ρ', l2_does_fill_against [some W.D, some (.int (e : Nat)), some (.int (m : Nat)), some (.tup ((List.range W.m).map W.eD)), some (.tup ((List.range W.m).map W.rD)), some (cD W e m (W.btw2 (W.t e) (W.s m))), x, y, some (.int (u : Nat)), z] S = .next ρ' S ∧
      ∃ z, ρ' = [some W.D, some (.int (e : Nat)), some (.int (m : Nat)), some (.tup ((List.range W.m).map W.eD)), some (.tup ((List.range W.m).map W.rD)), some (cD W e m (W.btw2 (W.t e) (W.s m))), x, y, some (.int (u : Nat)), z]) := by
  have key := loop_const (body := fun d ρ S => ((gName 9) d ρ S).only.seq b2_does_fill_against) zD (fun v => W.gap2 e m u v) (.bl false) (fun ρ => ∃ z, ρ = [some W.D, some (.int (e : Nat)), some (.int (m : Nat)), some (.tup ((List.range W.m).map W.eD)), some (.tup ((List.range W.m).map W.rD)), some (cD W e m (W.btw2 (W.t e) (W.s m))), x, y, some (.int (u : Nat)), z]) (S := S) (W.btw2 (W.t e) (W.t m))
    [some W.D, some (.int (e : Nat)), some (.int (m : Nat)), some (.tup ((List.range W.m).map W.eD)), some (.tup ((List.range W.m).map W.rD)), some (cD W e m (W.btw2 (W.t e) (W.s m))), x, y, some (.int (u : Nat)), z] ⟨_, rfl⟩ (by
      rintro v hv ρ ⟨z, rfl⟩
      have mv := (mem_btw2.mp hv).lt
      have k1 := fun S => idx_rng (S := S) W.rD hu
      have k2 := fun S => wRow W u hm S
      have k3 := fun S => idx_rng (S := S) W.rD he
      have k4 := fun S => wRow W e mv S
      have q1 := cget (W := W) (e := e) (m := m) (x := cD W e m (W.btw2 (W.t e) (W.s m))) (S := S) (ls := W.btw2 (W.t e) (W.s m)) rfl ((u : Int), (v : Int))
      have q0 := ke_pairD.isD (x := cD W e m (W.btw2 (W.t e) (W.s m))) (S := S) (val := fun p => .int (cntK (W.kp e m) (W.btw2 (W.t e) (W.s m)) p : Nat)) (ks := metK (W.kp e m) (W.btw2 (W.t e) (W.s m))) rfl
      rw [cnt_mids] at q1
      have pk : pairD ((u : Int), (v : Int)) = .tup [.int (u : Nat), .int (v : Nat)] := rfl
      rw [pk] at q1
      have run : ((gName 9) (zD v) [some W.D, some (.int (e : Nat)), some (.int (m : Nat)), some (.tup ((List.range W.m).map W.eD)), some (.tup ((List.range W.m).map W.rD)), some (cD W e m (W.btw2 (W.t e) (W.s m))), x, y, some (.int (u : Nat)), z] S).only.seq b2_does_fill_against =
          if W.gap2 e m u v = true then .ret (.bl false) S else .next [some W.D, some (.int (e : Nat)), some (.int (m : Nat)), some (.tup ((List.range W.m).map W.eD)), some (.tup ((List.range W.m).map W.rD)), some (cD W e m (W.btw2 (W.t e) (W.s m))), x, y, some (.int (u : Nat)), some (.int (v : Nat))] S := by
        unfold Wd.gap2
        generalize cD W e m (W.btw2 (W.t e) (W.s m)) = CD at *
        by_cases q : W.c u m = W.c e v
        · by_cases q2 : (W.mids e m u v).length = 1
          · have q3 : (((W.mids e m u v).length : Int) == 1) = true := by simp; omega
            generalize (W.mids e m u v).length = ML at *
            generalize W.D = WD at *
            unfold b2_does_fill_against
            simp_arith [zD, k1, k2, k3, k4, eq_int, q, q0, q1, ne_int, q3, q2]
          · have q3 : (((W.mids e m u v).length : Int) == 1) = false := by simp; omega
            generalize (W.mids e m u v).length = ML at *
            generalize W.D = WD at *
            unfold b2_does_fill_against
            simp_arith [zD, k1, k2, k3, k4, eq_int, q, q0, q1, ne_int, q3, q2]
        · have q3 : (W.c u m == W.c e v) = false := by simpa using q
          generalize W.D = WD at *
          unfold b2_does_fill_against
          simp_arith [zD, k1, k2, k3, k4, eq_int, q, q3]
      rw [run]
      exact ⟨fun q => by rw [if_pos q], fun q => ⟨_, .inl (by rw [if_neg (by rw [q]; exact Bool.false_ne_true)]), _, rfl⟩⟩)
  have it : l2_does_fill_against [some W.D, some (.int (e : Nat)), some (.int (m : Nat)), some (.tup ((List.range W.m).map W.eD)), some (.tup ((List.range W.m).map W.rD)), some (cD W e m (W.btw2 (W.t e) (W.s m))), x, y, some (.int (u : Nat)), z] S = loop (fun d ρ S => ((gName 9) d ρ S).only.seq b2_does_fill_against) ((W.btw2 (W.t e) (W.t m)).map zD) [some W.D, some (.int (e : Nat)), some (.int (m : Nat)), some (.tup ((List.range W.m).map W.eD)), some (.tup ((List.range W.m).map W.rD)), some (cD W e m (W.btw2 (W.t e) (W.s m))), x, y, some (.int (u : Nat)), z] S := by
    have g1 := fun S => btw_ok (W := W) (x := W.t e) (y := W.t m) (S := S) (by omega)
    have g2 := fun S => idx_rng (S := S) W.eD he
    have g3 := fun S => idx_rng (S := S) W.eD hm
    have g4 := fun S => wDst W e S
    have g5 := fun S => wDst W m S
    unfold l2_does_fill_against sFor
    generalize cD W e m (W.btw2 (W.t e) (W.s m)) = CD at *
    generalize W.D = WD at *
    simp_arith [g1, g2, g3, g4, g5]
  rw [it]
  exact key
theorem dfill_ok {S : Store} : callP f_does_fill_against [W.D, .int (e : Nat), .int (m : Nat)] S = .ok (.bl (W.fillB e m)) S := by
  refine callP_ok (S1 := [none]) ?_ (by simp [D.pureAll, wd_pure, D.pure]) rfl
  have key := loop_const (body := fun d ρ S => ((gName 8) d ρ S).only.seq b3_does_fill_against) zD (fun u => (W.btw2 (W.t e) (W.t m)).any fun v => W.gap2 e m u v) (.bl false) (fun ρ => ∃ x y u z, ρ = [some W.D, some (.int (e : Nat)), some (.int (m : Nat)), some (.tup ((List.range W.m).map W.eD)), some (.tup ((List.range W.m).map W.rD)), some (cD W e m (W.btw2 (W.t e) (W.s m))), x, y, u, z]) (S := [none]) (W.btw2 (W.s e) (W.s m))
  obtain ⟨l', s', e1⟩ := l1_dfill he hm h (x := none) (y := none) (z := none) (w := none)
  have key := key [some W.D, some (.int (e : Nat)), some (.int (m : Nat)), some (.tup ((List.range W.m).map W.eD)), some (.tup ((List.range W.m).map W.rD)), some (cD W e m (W.btw2 (W.t e) (W.s m))), l', s', none, none] ⟨_, _, _, _, rfl⟩ (by
      rintro u hu ρ ⟨x, y, u0, z, rfl⟩
      obtain ⟨k1, k2⟩ := l2_dfill he hm h (mem_btw2.mp hu).lt (S := [none]) (x := x) (y := y) (z := z)
      have st : ((gName 8) (zD u) [some W.D, some (.int (e : Nat)), some (.int (m : Nat)), some (.tup ((List.range W.m).map W.eD)), some (.tup ((List.range W.m).map W.rD)), some (cD W e m (W.btw2 (W.t e) (W.s m))), x, y, u0, z] [none]).only.seq b3_does_fill_against = l2_does_fill_against [some W.D, some (.int (e : Nat)), some (.int (m : Nat)), some (.tup ((List.range W.m).map W.eD)), some (.tup ((List.range W.m).map W.rD)), some (cD W e m (W.btw2 (W.t e) (W.s m))), x, y, some (.int (u : Nat)), z] [none] := rfl
      rw [st]
      exact ⟨k1, fun q => let ⟨ρ', e1, z, e2⟩ := k2 q; ⟨ρ', .inl e1, _, _, _, _, e2⟩⟩)
  have it : l3_does_fill_against [some W.D, some (.int (e : Nat)), some (.int (m : Nat)), some (.tup ((List.range W.m).map W.eD)), some (.tup ((List.range W.m).map W.rD)), some (cD W e m (W.btw2 (W.t e) (W.s m))), l', s', none, none] [none] = loop (fun d ρ S => ((gName 8) d ρ S).only.seq b3_does_fill_against) ((W.btw2 (W.s e) (W.s m)).map zD) [some W.D, some (.int (e : Nat)), some (.int (m : Nat)), some (.tup ((List.range W.m).map W.eD)), some (.tup ((List.range W.m).map W.rD)), some (cD W e m (W.btw2 (W.t e) (W.s m))), l', s', none, none] [none] := by
    have g1 := fun S => btw_ok (W := W) (x := W.s e) (y := W.s m) (S := S) (by omega)
    have g2 := fun S => idx_rng (S := S) W.eD he
    have g3 := fun S => idx_rng (S := S) W.eD hm
    have g4 := fun S => wSrc W e S
    have g5 := fun S => wSrc W m S
    unfold l3_does_fill_against sFor
    generalize cD W e m (W.btw2 (W.t e) (W.s m)) = CD at *
    generalize W.D = WD at *
    simp_arith [g1, g2, g3, g4, g5]
  rw [← it] at key
  have fin := seq_ret key (sRet (eC (.bl true))) (.ret (.bl true) [none]) (fun ρ' _ => rfl)
  have w1 := fun S => wEnds W S
  have w2 := fun S => wTab W S
  have fz : frz (.loc 0) [some (cO W e m (W.btw2 (W.t e) (W.s m)))] = .ok (cD W e m (W.btw2 (W.t e) (W.s m))) [none] := frz_atD rfl
  generalize cD W e m (W.btw2 (W.t e) (W.s m)) = CD at *
  generalize cO W e m (W.btw2 (W.t e) (W.s m)) = CO at *
  have sp : m_does_fill_against = sSeq (sPar [3, 4] (aCons (eOp2 idxS (eVar 0) (eC (.int 1))) (aCons (eOp2 idxS (eVar 0) (eC (.int 2))) aNil))) (sSeq (sAsg eDict (gName 5)) (sSeq l1_does_fill_against (sSeq (sFrz 5) (sSeq l3_does_fill_against (sRet (eC (.bl true))))))) := rfl
  unfold f_does_fill_against
  rw [sp]
  have fin2 : sSeq l3_does_fill_against (sRet (eC (.bl true))) [some W.D, some (.int (e : Nat)), some (.int (m : Nat)), some (.tup ((List.range W.m).map W.eD)), some (.tup ((List.range W.m).map W.rD)), some CD, l', s', none, none] [none] = .ret (.bl (W.fillB e m)) [none] := by
    show (l3_does_fill_against _ _).seq _ = _
    rw [fin]
    unfold Wd.fillB
    cases (W.btw2 (W.s e) (W.s m)).any fun u => (W.btw2 (W.t e) (W.t m)).any fun v => W.gap2 e m u v <;> rfl
  generalize sSeq l3_does_fill_against (sRet (eC (.bl true))) = TT at *
  generalize (List.range W.m).map W.eD = ED at *
  generalize (List.range W.m).map W.rD = RD at *
  generalize W.D = WD at *
  simp_arith [w1, w2, eDict, e1, fz, fin2]
end
end Mi
set_option linter.all false
set_option maxRecDepth 100000
namespace Mi
open PySem L2 L_TE
local macro_rules | `(tactic| simp_arith [$ls,*]) => `(tactic| simp [runF, sSeq, sIf, sAsg, sRet, sRetN, sNext, sDrop, sBrk, sCont, sPar, gName, gTup, gSeq, gSub, eOp1, eOp2, eVar, eC, eBlt, lBlt, lOp1, lOp2, sl3, aOne, aCons, aNil, eTup, lOf, eFrz, eNew, eIf, eB, tB, tNot, tAnd, tOr, tOp2, tChain, eAnd, eOr, eCall, eMth, Res.toS, SRes.seq, SRes.only, Res.bind, iOf, items, iRange1, iRange2, iEnum, enumOf, range1, range2, sFrz, b2, i2, i2c, gtD, ltD, leD, geD, subD, mulD, modD, divD, intD, isN, notN, D.isNon, negD, sizeLine_eq, $ls,*])
/-! ### _law_fill_rows -/
def Wd.rowsD (W : Wd) : Mi.D := .lst ((List.range W.m).map fun e => .lst ((List.range W.m).map fun x => .bl (W.fillB e x)))
theorem rows_ok {W : Wd} (h : W.m ≤ 4000) (S : Store) : callP f__law_fill_rows [W.D] S = .ok W.rowsD S := by
  have hb := big
  refine callP_ok (S1 := []) ?_ (by simp [D.pureAll, wd_pure]) (by
    unfold Wd.rowsD
    simp only [D.pure]
    exact pureAll_map fun e _ => by
      simp only [D.pure]
      exact pureAll_map fun x _ => rfl)
  have c1 : ∀ (S : Store) (e : Nat) (w : Option D), e < W.m → c1__law_fill_rows [some W.D, some (.int (W.m : Nat)), w, some (.int (e : Nat))] S = .ok ((List.range W.m).map fun x => .bl (W.fillB e x)) S := fun S e w he => by
    unfold c1__law_fill_rows
    refine comp_map (fun i : Nat => D.int (i : Nat)) _ (walk_n (by omega) (by simp_arith [])) (fun x hx => ⟨_, rfl, ?_⟩) (by simp; omega)
    have q := fun S => lfills_ok he (List.mem_range.mp hx) h (S := S)
    generalize W.D = WD at *
    simp_arith [wipe, q]
  have c2 : ∀ (S : Store), c2__law_fill_rows [some W.D, some (.int (W.m : Nat)), none, none] S = .ok ((List.range W.m).map fun e => .lst ((List.range W.m).map fun x => .bl (W.fillB e x))) S := fun S => by
    unfold c2__law_fill_rows
    refine comp_map (fun i : Nat => D.int (i : Nat)) _ (walk_n (by omega) (by simp_arith [])) (fun e he => ⟨_, rfl, ?_⟩) (by simp; omega)
    have q := fun S w => c1 S e w (List.mem_range.mp he)
    generalize W.D = WD at *
    simp_arith [wipe, q]
  have w1 := fun S => wEnds W S
  have ln : ∀ S, lenD [.tup ((List.range W.m).map W.eD)] S = .ok (.int (W.m : Nat)) S := fun S => by rw [len_tup]; simp
  unfold Wd.rowsD
  generalize (List.range W.m).map W.eD = ED at *
  generalize W.D = WD at *
  simp_arith [f__law_fill_rows, m__law_fill_rows, w1, ln, c2]
end Mi
set_option linter.all false
set_option maxRecDepth 100000
namespace Mi
open PySem L2 L_TE
local macro_rules | `(tactic| simp_arith [$ls,*]) => `(tactic| simp [runF, sSeq, sIf, sAsg, sRet, sRetN, sNext, sDrop, sBrk, sCont, sPar, gName, gTup, gSeq, gSub, eOp1, eOp2, eVar, eC, eBlt, lBlt, lOp1, lOp2, sl3, aOne, aCons, aNil, eTup, lOf, eFrz, eNew, eIf, eB, tB, tNot, tAnd, tOr, tOp2, tChain, eAnd, eOr, eCall, eMth, Res.toS, SRes.seq, SRes.only, Res.bind, iOf, items, iRange1, iRange2, iEnum, enumOf, range1, range2, sFrz, b2, i2, i2c, gtD, ltD, leD, geD, subD, mulD, modD, divD, intD, isN, notN, D.isNon, negD, sizeLine_eq, $ls,*])
/-! ### _law_turnable -/
def Wd.tst (W : Wd) (f g : Nat) : Bool := decide (W.c f g < (W.n : Int)) && (decide (W.c g f < (W.n : Int)) && (decide (0 ≤ W.c f g) && decide (0 ≤ W.c g f)))
def Wd.trB (W : Wd) (f : Nat) : Bool := (W.btw2 (W.t f) (W.s f)).any fun g => W.tst f g
def Wd.trs (W : Wd) : List Nat := (List.range W.m).filter W.trB
section
variable {W : Wd} (h : W.m ≤ 4000)
include h
theorem l1_turn {f : Nat} (hf : f < W.m) {ks : List Nat} (hks : f ∉ ks) (hl : ks.length ≤ 4000) {val : Nat → D} (hv : (dD false zD val ks).pure = true) {v5 : Option D} : ∃ v5' val', (dD false zD val' (if W.trB f = true then ks ++ [f] else ks)).pure = true ∧ l1__law_turnable [some W.D, some (.loc 0), some (.int (W.n : Nat)), some (.int (f : Nat)), some (W.eD f), v5] [some (dO false zD val ks)] =
    .next [some W.D, some (.loc 0), some (.int (W.n : Nat)), some (.int (f : Nat)), some (W.eD f), v5'] [some (dO false zD val' (if W.trB f = true then ks ++ [f] else ks))] := by
  have hb := big2
  generalize hL : W.btw2 (W.t f) (W.s f) = L
  have hLm : ∀ l ∈ L, l < W.m := fun l hl => by rw [← hL] at hl; exact (mem_btw2.mp hl).lt
  obtain ⟨ρ', S', lp, v5', val', rfl, rfl, vp⟩ := loop_inv (body := fun d ρ S => ((gName 5) d ρ S).only.seq b1__law_turnable) zD
    (fun j ρ T => ∃ v5 val, ρ = [some W.D, some (.loc 0), some (.int (W.n : Nat)), some (.int (f : Nat)), some (W.eD f), v5] ∧ T = [some (dO false zD val (if (L.take j).any (fun g => W.tst f g) = true then ks ++ [f] else ks))] ∧ (dD false zD val (if (L.take j).any (fun g => W.tst f g) = true then ks ++ [f] else ks)).pure = true) L 0
    [some W.D, some (.loc 0), some (.int (W.n : Nat)), some (.int (f : Nat)), some (W.eD f), v5] [some (dO false zD val ks)] ⟨_, val, rfl, by simp, by simpa using hv⟩ (by
      rintro j g ρ T hj ⟨v5, val, rfl, rfl, vq⟩
      rw [Nat.zero_add] at vq ⊢
      have tk : L.take (j + 1) = L.take j ++ [g] := by rw [List.take_add_one, hj]; rfl
      have hg := hLm g (List.mem_of_getElem? hj)
      have w1 := fun S => wTab W S
      have k1 := fun S => idx_rng (S := S) W.rD hf
      have k2 := fun S => wRow W f hg S
      have k3 := fun S => idx_rng (S := S) W.rD hg
      have k4 := fun S => wRow W g hf S
      rw [tk, List.any_append]
      by_cases q : W.tst f g = true
      · have e1 : ((L.take j).any (fun g => W.tst f g) || [g].any fun g => W.tst f g) = true := by simp [q]
        rw [e1, if_pos rfl]
        generalize hks2 : (if (L.take j).any (fun g => W.tst f g) = true then ks ++ [f] else ks) = ks2
        have p := ke_zD.putU (l := 0) (S := [some (dO false zD val ks2)]) (val := val) (ks := ks2) rfl f (.int (g : Nat)) (by
          rw [← hks2]
          by_cases z : (L.take j).any (fun g => W.tst f g) = true
          · rw [if_pos z]; simp; omega
          · rw [if_neg z]; omega)
        have ad : addK ks2 f = ks ++ [f] := by
          unfold addK
          rw [← hks2]
          by_cases z : (L.take j).any (fun g => W.tst f g) = true
          · rw [if_pos z, if_pos (by simp)]
          · rw [if_neg z, if_neg hks]
        rw [ad] at p
        simp only [List.set_cons_zero] at p
        have np : (dD false zD (updF val f (.int (g : Nat))) (ks ++ [f])).pure = true := by
          rw [hks2] at vq
          unfold dD at vq ⊢
          simp only [D.pure, Bool.and_eq_true] at vq ⊢
          refine ⟨pureAll_map fun _ _ => rfl, ?_⟩
          have vq2 := vq.2
          have all : ∀ x ∈ ks, (val x).pure = true := fun x hx => by
            have mem : x ∈ ks2 := by
              rw [← hks2]
              by_cases z : (L.take j).any (fun g => W.tst f g) = true
              · rw [if_pos z]; simp [hx]
              · rw [if_neg z]; exact hx
            have go : ∀ l : List Nat, D.pureAll (l.map val) = true → x ∈ l → (val x).pure = true := by
              intro l
              induction l with
              | nil => intro _ z; cases z
              | cons a l ih =>
                intro z1 z2
                simp only [List.map_cons, D.pureAll, Bool.and_eq_true] at z1
                rcases List.mem_cons.mp z2 with rfl | z2
                · exact z1.1
                · exact ih z1.2 z2
            exact go ks2 vq2 mem
          refine pureAll_map fun x hx => ?_
          unfold updF
          by_cases e : x = f
          · rw [if_pos e]; rfl
          · rw [if_neg e]
            rcases List.mem_append.mp hx with hx | hx
            · exact all x hx
            · exact absurd (List.mem_singleton.mp hx) e
        refine ⟨_, _, .inl ?_, some (.int (g : Nat)), updF val f (.int (g : Nat)), rfl, rfl, np⟩
        unfold Wd.tst at q
        simp only [Bool.and_eq_true, decide_eq_true_eq] at q
        obtain ⟨q1, q2, q3, q4⟩ := q
        unfold zD at p
        have p : putD (.loc 0) (.int (f : Nat)) (.int (g : Nat)) [some (dO false zD val ks2)] = .ok () [some (dO false zD (updF val f (.int (g : Nat))) (ks ++ [f]))] := p
        generalize [some (dO false zD val ks2)] = S0 at *
        generalize [some (dO false zD (updF val f (.int (g : Nat))) (ks ++ [f]))] = S1 at *
        generalize (List.range W.m).map W.rD = RD at *
        generalize W.D = WD at *
        unfold b1__law_turnable
        simp_arith [zD, w1, k1, k2, k3, k4, q1, q2, q3, q4, p]
      · have q' : W.tst f g = false := by simpa using q
        have e1 : ((L.take j).any (fun g => W.tst f g) || [g].any fun g => W.tst f g) = (L.take j).any (fun g => W.tst f g) := by simp [q']
        rw [e1]
        refine ⟨_, _, .inl ?_, some (.int (g : Nat)), val, rfl, rfl, vq⟩
        generalize [some (dO false zD val (if (L.take j).any (fun g => W.tst f g) = true then ks ++ [f] else ks))] = S0 at *
        unfold Wd.tst at q'
        generalize (List.range W.m).map W.rD = RD at *
        generalize W.D = WD at *
        unfold b1__law_turnable
        by_cases q1 : W.c f g < (W.n : Int)
        · by_cases q2 : W.c g f < (W.n : Int)
          · by_cases q3 : 0 ≤ W.c f g
            · have q4 : ¬ 0 ≤ W.c g f := by simpa [q1, q2, q3] using q'
              simp_arith [zD, w1, k1, k2, k3, k4, q1, q2, q3, q4]
            · simp_arith [zD, w1, k1, k2, k3, k4, q1, q2, q3]
          · simp_arith [zD, w1, k1, k2, k3, k4, q1, q2]
        · simp_arith [zD, w1, k1, k2, k3, k4, q1])
  rw [Nat.zero_add, List.take_length] at lp vp
  have e2 : W.trB f = L.any (fun g => W.tst f g) := by unfold Wd.trB; rw [hL]
  refine ⟨v5', val', by rw [e2]; exact vp, ?_⟩
  rw [e2, ← lp]
  have g1 := fun S => lbtw_ok (W := W) (x := W.t f) (y := W.s f) (S := S) (by omega)
  rw [hL] at g1
  have g4 := fun S => wDst W f S
  have g5 := fun S => wSrc W f S
  unfold l1__law_turnable sFor
  generalize [some (dO false zD val ks)] = S0 at *
  generalize W.eD f = EF at *
  generalize W.D = WD at *
  simp_arith [g1, g4, g5]
theorem turn_ok : ∃ val : Nat → D, ∀ S, callP f__law_turnable [W.D] S = .ok (dD false zD val W.trs) S := by
  have hb := big2
  obtain ⟨ρ', S', lp, v3, v4, v5, val, rfl, rfl, vp⟩ := loop_inv (body := fun d ρ S => ((gTup [gName 3, gName 4]) d ρ S).only.seq b2__law_turnable) (fun f : Nat => .tup [.int (f : Nat), W.eD f])
    (fun j ρ T => ∃ v3 v4 v5 val, ρ = [some W.D, some (.loc 0), some (.int (W.n : Nat)), v3, v4, v5] ∧ T = [some (dO false zD val ((List.range j).filter W.trB))] ∧ (dD false zD val ((List.range j).filter W.trB)).pure = true) (List.range W.m) 0
    [some W.D, some (.loc 0), some (.int (W.n : Nat)), none, none, none] [some (.dct false [] [])] ⟨_, _, _, fun _ => .non, rfl, by simp [dO], rfl⟩ (by
      rintro j f ρ T hj ⟨v3, v4, v5, val, rfl, rfl, vp⟩
      have hjl := (List.getElem?_eq_some_iff.mp hj).1
      rw [List.length_range] at hjl
      have hx : f = j := by simpa [hjl] using hj.symm
      subst hx
      rw [Nat.zero_add] at vp ⊢
      obtain ⟨v5', val', vp', e⟩ := l1_turn h hjl (ks := (List.range f).filter W.trB) (fun z => by have := (List.mem_filter.mp z).1; simp at this) (Nat.le_trans (List.length_filter_le _ _) (by simp; omega)) (val := val) vp (v5 := v5)
      have st : (if W.trB f = true then (List.range f).filter W.trB ++ [f] else (List.range f).filter W.trB) = (List.range (f + 1)).filter W.trB := by
        rw [List.range_succ, List.filter_append]
        by_cases q : W.trB f = true
        · simp [q]
        · simp [q]
      rw [st] at e vp'
      exact ⟨_, _, .inl e, some (.int (f : Nat)), some (W.eD f), v5', val', rfl, rfl, vp'⟩)
  rw [List.length_range, Nat.zero_add] at lp vp
  refine ⟨val, fun S => callP_ok (S1 := [none]) ?_ (by simp [D.pureAll, wd_pure]) ?_⟩
  · have it : l2__law_turnable [some W.D, some (.loc 0), some (.int (W.n : Nat)), none, none, none] [some (.dct false [] [])] = .next [some W.D, some (.loc 0), some (.int (W.n : Nat)), v3, v4, v5] [some (dO false zD val W.trs)] := by
      unfold Wd.trs
      rw [← lp]
      unfold l2__law_turnable sFor
      have it2 : iEnum (eOp2 idxS (eVar 0) (eC (.int 1))) [some W.D, some (.loc 0), some (.int (W.n : Nat)), none, none, none] [some (.dct false [] [])] = .ok ((List.range W.m).map fun f : Nat => .tup [.int (f : Nat), W.eD f]) [some (.dct false [] [])] := by
        simp_arith [wEnds]
        rw [enumD_range]
      rw [it2]
      rfl
    have fz : frz (.loc 0) [some (dO false zD val W.trs)] = .ok (dD false zD val W.trs) [none] := frz_atD rfl
    have w0 := fun S => wN W S
    generalize dD false zD val W.trs = DD at *
    generalize [some (dO false zD val W.trs)] = S1 at *
    generalize W.D = WD at *
    simp_arith [f__law_turnable, m__law_turnable, eDict, w0, it, fz]
  · exact vp
end
end Mi
set_option linter.all false
set_option maxRecDepth 100000
namespace Mi
open PySem L2 L_TE
theorem one_len {l : List Nat} (nd : l.Nodup) : l.length = 1 ↔ ∃ x, x ∈ l ∧ ∀ y ∈ l, y = x := by
  constructor
  · intro h
    obtain ⟨x, rfl⟩ := List.length_eq_one_iff.mp h
    exact ⟨x, by simp, fun y hy => by simpa using hy⟩
  · rintro ⟨x, hx, hu⟩
    cases l with
    | nil => cases hx
    | cons a l =>
      cases l with
      | nil => rfl
      | cons b l =>
        have h1 := hu a (by simp)
        have h2 := hu b (by simp)
        rw [h1, ← h2] at nd
        simp at nd
section
variable {W : Wd} (C : IsCat W) {e m : Nat}
include C
theorem fillB_iff (he : e < W.m) (hm : m < W.m) : W.fillB e m = true ↔ Fl W e m := by
  have He := Hm.of he
  have Hx := Hm.of hm
  have mids : ∀ {u v l : Nat}, l ∈ W.mids e m u v ↔ Hm W (W.t e) (W.s m) l ∧ W.cn e l = u ∧ W.cn l m = v := fun {u v l} => by
    unfold Wd.mids
    rw [List.mem_filter, mem_btw2, Bool.and_eq_true, beq_iff_eq, beq_iff_eq]
    constructor
    · rintro ⟨h1, h2, h3⟩
      exact ⟨h1, (C.cval He h1).mp h2, (C.cval h1 Hx).mp h3⟩
    · rintro ⟨h1, h2, h3⟩
      exact ⟨h1, (C.cval He h1).mpr h2, (C.cval h1 Hx).mpr h3⟩
  have nd : ∀ u v, (W.mids e m u v).Nodup := fun u v => (btw2_nd _ _ _).filter _
  unfold Wd.fillB
  rw [Bool.not_eq_true', List.any_eq_false]
  constructor
  · intro h u v hu hv q
    have h1 := h u (mem_btw2.mpr hu)
    have h1 : ((W.btw2 (W.t e) (W.t m)).any fun v => W.gap2 e m u v) = false := by simpa using h1
    rw [List.any_eq_false] at h1
    have h2 := h1 v (mem_btw2.mpr hv)
    unfold Wd.gap2 at h2
    have q2 : (W.c u m == W.c e v) = true := by rw [beq_iff_eq]; exact (C.ceq hu Hx He hv).mpr q
    rw [q2, Bool.true_and] at h2
    have h3 : (W.mids e m u v).length = 1 := by simpa using h2
    obtain ⟨l, hl, hu⟩ := (one_len (nd u v)).mp h3
    obtain ⟨a, b, c⟩ := mids.mp hl
    exact ⟨l, a, b, c, fun l' a' b' c' => hu l' (mids.mpr ⟨a', b', c'⟩)⟩
  · intro h u hu
    have hu := mem_btw2.mp hu
    have : ((W.btw2 (W.t e) (W.t m)).any fun v => W.gap2 e m u v) = false := by
      rw [List.any_eq_false]
      intro v hv
      have hv := mem_btw2.mp hv
      unfold Wd.gap2
      by_cases q : W.c u m = W.c e v
      · obtain ⟨l, a, b, c, d⟩ := h u v hu hv ((C.ceq hu Hx He hv).mp q)
        have h3 : (W.mids e m u v).length = 1 := (one_len (nd u v)).mpr ⟨l, mids.mpr ⟨a, b, c⟩, fun l' h' => by
          obtain ⟨a', b', c'⟩ := mids.mp h'
          exact d l' a' b' c'⟩
        simp [h3]
      · simp [q]
    simp [this]
theorem fillB_op (he : e < W.m) (hm : m < W.m) : W.op.fillB e m = W.fillB m e := by
  rw [Bool.eq_iff_iff, fillB_iff C.op he hm, fillB_iff C hm he]
  exact ⟨fun h => h.unop, fun h => h.op⟩
theorem trB_iff {f : Nat} (hf : f < W.m) : W.trB f = true ↔ ∃ g, Inv2 W f g := by
  have Hf := Hm.of hf
  unfold Wd.trB
  rw [List.any_eq_true]
  have still : ∀ {x i : Nat}, Hm W x x i → i < W.n → i = x := fun {x i} h hi => by
    have := (C.ids i hi).1
    rw [h.sr] at this
    exact this.symm
  constructor
  · rintro ⟨g, hg, q⟩
    have hg := mem_btw2.mp hg
    unfold Wd.tst at q
    simp only [Bool.and_eq_true, decide_eq_true_eq] at q
    rw [C.cc Hf hg, C.cc hg Hf] at q
    exact ⟨g, hg, still (C.ch Hf hg) (by omega), still (C.ch hg Hf) (by omega)⟩
  · rintro ⟨g, h1, h2, h3⟩
    refine ⟨g, mem_btw2.mpr h1, ?_⟩
    have r := C.hx Hf
    unfold Wd.tst
    rw [C.cc Hf h1, C.cc h1 Hf, h2, h3]
    simp
    exact r
theorem mem_trs {f : Nat} : f ∈ W.trs ↔ f < W.m ∧ ∃ g, Inv2 W f g := by
  unfold Wd.trs
  rw [List.mem_filter, List.mem_range]
  constructor
  · rintro ⟨h1, h2⟩
    exact ⟨h1, (trB_iff C h1).mp h2⟩
  · rintro ⟨h1, h2⟩
    exact ⟨h1, (trB_iff C h1).mpr h2⟩
end
end Mi
set_option linter.all false
set_option maxRecDepth 100000
namespace Mi
open PySem L2 L_TE
local macro_rules | `(tactic| simp_arith [$ls,*]) => `(tactic| simp [runF, sSeq, sIf, sAsg, sRet, sRetN, sNext, sDrop, sBrk, sCont, sPar, gName, gTup, gSeq, gSub, eOp1, eOp2, eVar, eC, eBlt, lBlt, lOp1, lOp2, sl3, aOne, aCons, aNil, eTup, lOf, eFrz, eNew, eIf, eB, tB, tNot, tAnd, tOr, tOp2, tChain, eAnd, eOr, eCall, eMth, Res.toS, SRes.seq, SRes.only, Res.bind, iOf, items, iRange1, iRange2, iEnum, enumOf, range1, range2, sFrz, b2, i2, i2c, gtD, ltD, leD, geD, subD, mulD, modD, divD, intD, isN, notN, D.isNon, negD, sizeLine_eq, $ls,*])
/-! ### what is likened: names in a tuple -/
theorem tinyZ (k : Nat) : ∀ {l : List Nat}, (∀ x ∈ l, x < 1000000) → D.tinyAll (k + 1) (l.map zD) = true
  | [], _ => by simp [D.tinyAll]
  | x :: l, h => by
    have hx := h x List.mem_cons_self
    have e : (x : Int).natAbs < 1000000000000000000 := by omega
    rw [List.map_cons]
    simp only [D.tinyAll, zD, D.tiny, Bool.and_eq_true, decide_eq_true_eq]
    exact ⟨e, tinyZ k fun y hy => h y (List.mem_cons_of_mem _ hy)⟩
theorem tinyZt (k : Nat) {l : List Nat} (h : ∀ x ∈ l, x < 1000000) : D.tiny (k + 2) (.tup (l.map zD)) = true := by
  simp only [D.tiny]
  exact tinyZ k h
theorem wtZ : ∀ l : List Nat, D.wtAll (l.map zD) = 26 * l.length
  | [] => rfl
  | x :: l => by
    rw [List.map_cons]
    simp only [D.wtAll, wtZ l, List.length_cons, zD, D.wt]
    omega
theorem like_z {l : List Nat} (h : ∀ x ∈ l, x < 1000000) (hl : l.length ≤ 10000) (S : Store) : callP f__law_like [.tup (l.map zD), .tup (l.map zD)] S = .ok (.bl true) S :=
  call_like (tinyZt 58 h) (by simp only [D.wt, wtZ]; omega) (by simp only [D.pure]; exact pure_zD l)
theorem like_zz {l l2 : List Nat} (h : ∀ x ∈ l, x < 1000000) (hl : l.length ≤ 10000) (h2 : ∀ x ∈ l2, x < 1000000) (hl2 : l2.length ≤ 10000) (S : Store) : callP f__law_like [.lst [.tup (l.map zD), .tup (l2.map zD)], .lst [.tup (l.map zD), .tup (l2.map zD)]] S = .ok (.bl true) S :=
  call_like (by simp only [D.tiny, D.tinyAll, Bool.and_eq_true]; exact ⟨tinyZ 57 h, tinyZ 57 h2, trivial⟩) (by simp only [D.wt, D.wtAll, wtZ]; omega) (by simp only [D.pure, D.pureAll, pure_zD]; rfl)
/-! ### turned -/
section
variable {W : Wd} (h : W.m ≤ 10000) {S : Store}
include h
theorem c1_turned_ok {a b c : Option Mi.D} {d e f g : Option Mi.D} : c1_turned [a, b, some (.tup ((List.range W.m).map W.eD)), c, d, e, f, g, none] S = .ok ((List.range W.m).map W.op.eD) S := by
  unfold c1_turned
  refine comp_map W.eD _ (by simp_arith []) (fun i hi => ⟨_, by simp_arith [Wd.eD, wipe]; rfl, ?_⟩) (by rw [List.length_range]; exact Nat.le_trans h big)
  simp_arith [Wd.op, Wd.eD]
theorem c2_turned_ok {a b c d e f : Option Mi.D} {j : Nat} (hj : j < W.m) : c2_turned [a, b, c, some (.tup ((List.range W.m).map W.rD)), some (.rng 0 (W.m : Nat)), d, e, f, some (.int (j : Nat))] S = .ok ((List.range W.m).map fun g => .int (W.c g j)) S := by
  unfold c2_turned
  refine comp_map (fun i : Nat => Mi.D.int (i : Nat)) _ (by unfold iOf; simp only [eVar]; exact it_rngN (le62 h)) (fun i hi => ⟨_, rfl, ?_⟩) (by rw [List.length_range]; exact Nat.le_trans h big)
  have hi := List.mem_range.mp hi
  simp_arith [wipe, idx_rng _ hi, wRow _ _ hj]
theorem c3_turned_ok {a b c d e f : Option Mi.D} {g : Option Mi.D} : c3_turned [a, b, c, some (.tup ((List.range W.m).map W.rD)), some (.rng 0 (W.m : Nat)), d, e, f, g] S = .ok ((List.range W.m).map W.op.rD) S := by
  unfold c3_turned
  refine comp_map (fun i : Nat => Mi.D.int (i : Nat)) _ (by unfold iOf; simp only [eVar]; exact it_rngN (le62 h)) (fun i hi => ⟨_, rfl, ?_⟩) (by rw [List.length_range]; exact Nat.le_trans h big)
  have hi := List.mem_range.mp hi
  simp_arith [wipe, c2_turned_ok h hi, tupD, rd, Wd.op, Wd.rD]
theorem turned_ok : f_turned [W.D] S = .ok W.op.D S := by
  simp_arith [f_turned, m_turned, Wd.D, len_tup, rng2, c1_turned_ok h, c3_turned_ok h, tupD, rd]
  exact ⟨rfl, rfl, rfl⟩
end
theorem call_turned {W : Wd} (h : W.m ≤ 10000) (S : Store) : callP f_turned [W.D] S = .ok W.op.D S := callP_ok (turned_ok h) (by simp [D.pureAll, wd_pure]) (wd_pure W.op)
/-! ### the parts of _law_is_right -/
theorem filter_none {α : Type} {p : α → Bool} {l : List α} (h : ∀ x ∈ l, p x = false) : l.filter p = [] := by
  rw [List.filter_eq_nil_iff]
  intro x hx
  simp [h x hx]
theorem comp_nil {α : Type} {vs : List Nat} {it : AM} {g : GM} {t : TM} {e : EM} {ρ : Env} {S S1 : Store} {xs : List α} (enc : α → D) (hi : it ρ S = .ok (xs.map enc) S1)
    (h : ∀ x ∈ xs, ∃ ρ1, g (enc x) (wipe ρ vs) S1 = .next ρ1 S1 ∧ t ρ1 S1 = .ok false S1) (hl : xs.length ≤ sizeLine) : lComp vs it g t e ρ S = .ok [] S1 := by
  have := comp_of (e := e) enc (fun _ => false) enc hi (fun x hx => let ⟨ρ1, h1, h2⟩ := h x hx; ⟨ρ1, h1, h2, fun z => by cases z⟩) hl
  rwa [filter_none fun _ _ => rfl] at this
end Mi
set_option linter.all false
set_option maxRecDepth 100000
namespace Mi
open PySem L2 L_TE
local macro_rules | `(tactic| simp_arith [$ls,*]) => `(tactic| simp [runF, sSeq, sIf, sAsg, sRet, sRetN, sNext, sDrop, sBrk, sCont, sPar, gName, gTup, gSeq, gSub, eOp1, eOp2, eVar, eC, eBlt, lBlt, lOp1, lOp2, sl3, aOne, aCons, aNil, eTup, lOf, eFrz, eNew, eIf, eB, tB, tNot, tAnd, tOr, tOp2, tChain, eAnd, eOr, eCall, eMth, Res.toS, SRes.seq, SRes.only, Res.bind, iOf, items, iRange1, iRange2, iEnum, enumOf, range1, range2, sFrz, b2, i2, i2c, gtD, ltD, leD, geD, subD, mulD, modD, divD, intD, isN, notN, D.isNon, negD, sizeLine_eq, $ls,*])
/-! ### squares -/
abbrev Q4 := Nat × Nat × Nat × Nat
def sqD (q : Q4) : D := .tup [.int (q.1 : Nat), .int (q.2.1 : Nat), .int (q.2.2.1 : Nat), .int (q.2.2.2 : Nat)]
structure Sq (W : Wd) (q : Q4) : Prop where
  he : q.1 < W.m
  hd : q.2.1 < W.m
  hu : q.2.2.1 < W.m
  hv : q.2.2.2 < W.m
section
variable {W : Wd} (h : W.m ≤ 12) {v1 : Option D}
include h
theorem l1_sq {e d u : Nat} (he : e < W.m) (hd : d < W.m) (hu : u < W.m) {L : List Q4} (hL : ∀ q ∈ L, Sq W q) (hB : L.length ≤ 200000) {v8 : Option D} :
    ∃ (L' : List Q4) (v8' : Option D), (∀ q ∈ L', Sq W q) ∧ L'.length ≤ L.length + 12 ∧ l1__law_squares [some W.D, v1, some (.tup ((List.range W.m).map W.eD)), some (.tup ((List.range W.m).map W.rD)), some (.loc 0), some (.int (e : Nat)), some (.int (d : Nat)), some (.int (u : Nat)), v8] [some (.lst (L.map sqD))] =
      .next [some W.D, v1, some (.tup ((List.range W.m).map W.eD)), some (.tup ((List.range W.m).map W.rD)), some (.loc 0), some (.int (e : Nat)), some (.int (d : Nat)), some (.int (u : Nat)), v8'] [some (.lst (L'.map sqD))] := by
  have hb := big2
  have bl := btw2_len W (W.t e) (W.t d)
  obtain ⟨ρ', S', lp, L', v8', rfl, rfl, g, gl⟩ := loop_inv (body := fun d ρ S => ((gName 8) d ρ S).only.seq b1__law_squares) zD
    (fun j ρ T => ∃ (L' : List Q4) (v8 : Option D), ρ = [some W.D, v1, some (.tup ((List.range W.m).map W.eD)), some (.tup ((List.range W.m).map W.rD)), some (.loc 0), some (.int (e : Nat)), some (.int (d : Nat)), some (.int (u : Nat)), v8] ∧ T = [some (.lst (L'.map sqD))] ∧ (∀ q ∈ L', Sq W q) ∧ L'.length ≤ L.length + j) (W.btw2 (W.t e) (W.t d)) 0
    [some W.D, v1, some (.tup ((List.range W.m).map W.eD)), some (.tup ((List.range W.m).map W.rD)), some (.loc 0), some (.int (e : Nat)), some (.int (d : Nat)), some (.int (u : Nat)), v8] [some (.lst (L.map sqD))] ⟨L, _, rfl, rfl, hL, by omega⟩ (by
      rintro j v ρ T hj ⟨L', v8, rfl, rfl, g, gl⟩
      have hv := (mem_btw2.mp (List.mem_of_getElem? hj)).lt
      have hjl := (List.getElem?_eq_some_iff.mp hj).1
      rw [Nat.zero_add] at *
      have k1 := fun S => idx_rng (S := S) W.rD hu
      have k2 := fun S => wRow W u hd S
      have k3 := fun S => idx_rng (S := S) W.rD he
      have k4 := fun S => wRow W e hv S
      by_cases z : W.c u d = W.c e v
      · have q2 : isL (.loc 0) [some (.lst (L'.map sqD))] = true := isL_at rfl
        have q3 := app_at (S := [some (.lst (L'.map sqD))]) (l := 0) (v := sqD (e, d, u, v)) rfl (by rw [List.length_map]; omega)
        have q4 : ([some (.lst (L'.map sqD))] : Store).set 0 (some (.lst (L'.map sqD ++ [sqD (e, d, u, v)]))) = [some (.lst ((L' ++ [(e, d, u, v)]).map sqD))] := by
          rw [List.map_append]
          rfl
        rw [q4] at q3
        have q3 : appD (.loc 0) [.tup [.int (e : Nat), .int (d : Nat), .int (u : Nat), .int (v : Nat)]] [some (.lst (L'.map sqD))] = .ok .non [some (.lst ((L' ++ [(e, d, u, v)]).map sqD))] := q3
        refine ⟨_, _, .inl ?_, L' ++ [(e, d, u, v)], some (.int (v : Nat)), rfl, rfl, fun q hq => ?_, by rw [List.length_append, List.length_singleton]; omega⟩
        · generalize [some (Ob.lst ((L' ++ [(e, d, u, v)]).map sqD))] = S1 at *
          generalize [some (Ob.lst (L'.map sqD))] = S0 at *
          generalize (List.range W.m).map W.eD = ED at *
          generalize (List.range W.m).map W.rD = RD at *
          generalize W.D = WD at *
          unfold b1__law_squares
          simp_arith [zD, k1, k2, k3, k4, eq_int, z, q2, q3]
        · rcases List.mem_append.mp hq with hq | hq
          · exact g q hq
          · rw [List.mem_singleton.mp hq]
            exact ⟨he, hd, hu, hv⟩
      · refine ⟨_, _, .inl ?_, L', some (.int (v : Nat)), rfl, rfl, g, by omega⟩
        generalize [some (Ob.lst (L'.map sqD))] = S0 at *
        generalize (List.range W.m).map W.eD = ED at *
        generalize (List.range W.m).map W.rD = RD at *
        generalize W.D = WD at *
        unfold b1__law_squares
        simp_arith [zD, k1, k2, k3, k4, eq_int, z])
  refine ⟨L', v8', g, by omega, ?_⟩
  rw [← lp]
  have g1 := fun S => lbtw_ok (W := W) (x := W.t e) (y := W.t d) (S := S) (by omega)
  have j1 := fun S => idx_rng (S := S) W.eD he
  have j2 := fun S => idx_rng (S := S) W.eD hd
  have g4 := fun f S => wDst W f S
  unfold l1__law_squares sFor
  generalize [some (Ob.lst (L.map sqD))] = S0 at *
  generalize (List.range W.m).map W.eD = ED at *
  generalize (List.range W.m).map W.rD = RD at *
  generalize W.D = WD at *
  simp_arith [g1, j1, j2, g4]
theorem l2_sq {e d : Nat} (he : e < W.m) (hd : d < W.m) {L : List Q4} (hL : ∀ q ∈ L, Sq W q) (hB : L.length ≤ 100000) {v7 v8 : Option D} :
    ∃ (L' : List Q4) (v7' v8' : Option D), (∀ q ∈ L', Sq W q) ∧ L'.length ≤ L.length + 144 ∧ l2__law_squares [some W.D, v1, some (.tup ((List.range W.m).map W.eD)), some (.tup ((List.range W.m).map W.rD)), some (.loc 0), some (.int (e : Nat)), some (.int (d : Nat)), v7, v8] [some (.lst (L.map sqD))] =
      .next [some W.D, v1, some (.tup ((List.range W.m).map W.eD)), some (.tup ((List.range W.m).map W.rD)), some (.loc 0), some (.int (e : Nat)), some (.int (d : Nat)), v7', v8'] [some (.lst (L'.map sqD))] := by
  have bl := btw2_len W (W.s e) (W.s d)
  obtain ⟨ρ', S', lp, L', v7', v8', rfl, rfl, g, gl⟩ := loop_inv (body := fun d ρ S => ((gName 7) d ρ S).only.seq b2__law_squares) zD
    (fun j ρ T => ∃ (L' : List Q4) (v7 v8 : Option D), ρ = [some W.D, v1, some (.tup ((List.range W.m).map W.eD)), some (.tup ((List.range W.m).map W.rD)), some (.loc 0), some (.int (e : Nat)), some (.int (d : Nat)), v7, v8] ∧ T = [some (.lst (L'.map sqD))] ∧ (∀ q ∈ L', Sq W q) ∧ L'.length ≤ L.length + j * 12) (W.btw2 (W.s e) (W.s d)) 0
    [some W.D, v1, some (.tup ((List.range W.m).map W.eD)), some (.tup ((List.range W.m).map W.rD)), some (.loc 0), some (.int (e : Nat)), some (.int (d : Nat)), v7, v8] [some (.lst (L.map sqD))] ⟨L, _, _, rfl, rfl, hL, by omega⟩ (by
      rintro j u ρ T hj ⟨L', v7, v8, rfl, rfl, g, gl⟩
      have hu := (mem_btw2.mp (List.mem_of_getElem? hj)).lt
      have hjl := (List.getElem?_eq_some_iff.mp hj).1
      rw [Nat.zero_add] at *
      obtain ⟨L2, v8', g2, gl2, e2⟩ := l1_sq h (v1 := v1) he hd hu g (by omega) (v8 := v8)
      exact ⟨_, _, .inl e2, L2, some (.int (u : Nat)), v8', rfl, rfl, g2, by omega⟩)
  refine ⟨L', v7', v8', g, by omega, ?_⟩
  rw [← lp]
  have g1 := fun S => lbtw_ok (W := W) (x := W.s e) (y := W.s d) (S := S) (by omega)
  have j1 := fun S => idx_rng (S := S) W.eD he
  have j2 := fun S => idx_rng (S := S) W.eD hd
  have g4 := fun f S => wSrc W f S
  unfold l2__law_squares sFor
  generalize [some (Ob.lst (L.map sqD))] = S0 at *
  generalize (List.range W.m).map W.eD = ED at *
  generalize (List.range W.m).map W.rD = RD at *
  generalize W.D = WD at *
  simp_arith [g1, j1, j2, g4]
theorem l3_sq {e : Nat} (he : e < W.m) {L : List Q4} (hL : ∀ q ∈ L, Sq W q) (hB : L.length ≤ 50000) {v6 v7 v8 : Option D} :
    ∃ (L' : List Q4) (v6' v7' v8' : Option D), (∀ q ∈ L', Sq W q) ∧ L'.length ≤ L.length + 1728 ∧ l3__law_squares [some W.D, v1, some (.tup ((List.range W.m).map W.eD)), some (.tup ((List.range W.m).map W.rD)), some (.loc 0), some (.int (e : Nat)), v6, v7, v8] [some (.lst (L.map sqD))] =
      .next [some W.D, v1, some (.tup ((List.range W.m).map W.eD)), some (.tup ((List.range W.m).map W.rD)), some (.loc 0), some (.int (e : Nat)), v6', v7', v8'] [some (.lst (L'.map sqD))] := by
  obtain ⟨ρ', S', lp, L', v6', v7', v8', rfl, rfl, g, gl⟩ := loop_inv (body := fun d ρ S => ((gName 6) d ρ S).only.seq b3__law_squares) (fun i : Nat => D.int (i : Nat))
    (fun j ρ T => ∃ (L' : List Q4) (v6 v7 v8 : Option D), ρ = [some W.D, v1, some (.tup ((List.range W.m).map W.eD)), some (.tup ((List.range W.m).map W.rD)), some (.loc 0), some (.int (e : Nat)), v6, v7, v8] ∧ T = [some (.lst (L'.map sqD))] ∧ (∀ q ∈ L', Sq W q) ∧ L'.length ≤ L.length + j * 144) (List.range W.m) 0
    [some W.D, v1, some (.tup ((List.range W.m).map W.eD)), some (.tup ((List.range W.m).map W.rD)), some (.loc 0), some (.int (e : Nat)), v6, v7, v8] [some (.lst (L.map sqD))] ⟨L, _, _, _, rfl, rfl, hL, by omega⟩ (by
      rintro j d ρ T hj ⟨L', v6, v7, v8, rfl, rfl, g, gl⟩
      have hd := List.mem_range.mp (List.mem_of_getElem? hj)
      have hjl := (List.getElem?_eq_some_iff.mp hj).1
      rw [List.length_range] at hjl
      rw [Nat.zero_add] at *
      obtain ⟨L2, v7', v8', g2, gl2, e2⟩ := l2_sq h (v1 := v1) he hd g (by omega) (v7 := v7) (v8 := v8)
      exact ⟨_, _, .inl e2, L2, some (.int (d : Nat)), v7', v8', rfl, rfl, g2, by omega⟩)
  rw [List.length_range] at gl
  refine ⟨L', v6', v7', v8', g, by omega, ?_⟩
  rw [← lp]
  have ln : ∀ S, lenD [.tup ((List.range W.m).map W.eD)] S = .ok (.int (W.m : Nat)) S := fun S => by rw [len_tup]; simp
  unfold l3__law_squares sFor
  rw [walk_n (S1 := [some (.lst (L.map sqD))]) (m := W.m) (by omega) (by
    generalize (List.range W.m).map W.eD = ED at *
    generalize W.D = WD at *
    simp_arith [ln])]
  rfl
theorem squares_ok : ∃ L : List Q4, (∀ q ∈ L, Sq W q) ∧ L.length ≤ 20736 ∧ ∀ S, callP f__law_squares [W.D] S = .ok (.lst (L.map sqD)) S := by
  obtain ⟨ρ', S', lp, L', v5', v6', v7', v8', rfl, rfl, g, gl⟩ := loop_inv (body := fun d ρ S => ((gName 5) d ρ S).only.seq b4__law_squares) (fun i : Nat => D.int (i : Nat))
    (fun j ρ T => ∃ (L' : List Q4) (v5 v6 v7 v8 : Option D), ρ = [some W.D, some (.int (W.n : Nat)), some (.tup ((List.range W.m).map W.eD)), some (.tup ((List.range W.m).map W.rD)), some (.loc 0), v5, v6, v7, v8] ∧ T = [some (.lst (L'.map sqD))] ∧ (∀ q ∈ L', Sq W q) ∧ L'.length ≤ j * 1728) (List.range W.m) 0
    [some W.D, some (.int (W.n : Nat)), some (.tup ((List.range W.m).map W.eD)), some (.tup ((List.range W.m).map W.rD)), some (.loc 0), none, none, none, none] [some (.lst [])] ⟨[], _, _, _, _, rfl, rfl, by simp, by simp⟩ (by
      rintro j e ρ T hj ⟨L', v5, v6, v7, v8, rfl, rfl, g, gl⟩
      have he := List.mem_range.mp (List.mem_of_getElem? hj)
      have hjl := (List.getElem?_eq_some_iff.mp hj).1
      rw [List.length_range] at hjl
      rw [Nat.zero_add] at *
      obtain ⟨L2, v6', v7', v8', g2, gl2, e2⟩ := l3_sq h (v1 := some (.int (W.n : Nat))) he g (by omega) (v6 := v6) (v7 := v7) (v8 := v8)
      exact ⟨_, _, .inl e2, L2, some (.int (e : Nat)), v6', v7', v8', rfl, rfl, g2, by omega⟩)
  rw [List.length_range] at gl
  refine ⟨L', g, by omega, fun S => callP_ok (S1 := [none]) ?_ (by simp [D.pureAll, wd_pure]) (by
    simp only [D.pure]
    exact pureAll_map fun _ _ => rfl)⟩
  have ln : ∀ S, lenD [.tup ((List.range W.m).map W.eD)] S = .ok (.int (W.m : Nat)) S := fun S => by rw [len_tup]; simp
  have it : l4__law_squares [some W.D, some (.int (W.n : Nat)), some (.tup ((List.range W.m).map W.eD)), some (.tup ((List.range W.m).map W.rD)), some (.loc 0), none, none, none, none] [some (.lst [])] = .next [some W.D, some (.int (W.n : Nat)), some (.tup ((List.range W.m).map W.eD)), some (.tup ((List.range W.m).map W.rD)), some (.loc 0), v5', v6', v7', v8'] [some (.lst (L'.map sqD))] := by
    rw [← lp]
    unfold l4__law_squares sFor
    rw [walk_n (S1 := [some (.lst [])]) (m := W.m) (by omega) (by
      generalize (List.range W.m).map W.eD = ED at *
      generalize W.D = WD at *
      simp_arith [ln])]
    rfl
  have fz : frz (.loc 0) [some (.lst (L'.map sqD))] = .ok (.lst (L'.map sqD)) [none] := frz_at rfl
  have un : ∀ S, (sAsg (eVar 0) (gTup [(gName 1), (gName 2), (gName 3)])) [some W.D, none, none, none, none, none, none, none, none] S = .next [some W.D, some (.int (W.n : Nat)), some (.tup ((List.range W.m).map W.eD)), some (.tup ((List.range W.m).map W.rD)), none, none, none, none, none] S := fun S => by
    simp_arith [Wd.D]
  generalize [some (Ob.lst (L'.map sqD))] = S1 at *
  generalize L'.map sqD = LD at *
  generalize (List.range W.m).map W.eD = ED at *
  generalize (List.range W.m).map W.rD = RD at *
  generalize W.D = WD at *
  unfold f__law_squares m__law_squares
  generalize sAsg (eVar 0) (gTup [(gName 1), (gName 2), (gName 3)]) = U at *
  simp_arith [un, it, fz]
end
end Mi
set_option linter.all false
set_option maxRecDepth 100000
namespace Mi
open PySem L2 L_TE
local macro_rules | `(tactic| simp_arith [$ls,*]) => `(tactic| simp [runF, sSeq, sIf, sAsg, sRet, sRetN, sNext, sDrop, sBrk, sCont, sPar, gName, gTup, gSeq, gSub, eOp1, eOp2, eVar, eC, eBlt, lBlt, lOp1, lOp2, sl3, aOne, aCons, aNil, eTup, lOf, eFrz, eNew, eIf, eB, tB, tNot, tAnd, tOr, tOp2, tChain, eAnd, eOr, eCall, eMth, Res.toS, SRes.seq, SRes.only, Res.bind, iOf, items, iRange1, iRange2, iEnum, enumOf, range1, range2, sFrz, b2, i2, i2c, gtD, ltD, leD, geD, subD, mulD, modD, divD, intD, isN, notN, D.isNon, negD, sizeLine_eq, $ls,*])
theorem ne_bl {x y : Bool} {S : Store} : neD (.bl x) (.bl y) S = .ok (!(x == y)) S := by
  unfold neD eqD
  simp [rd, D.flat, D.py, PyData.eqv]
theorem dIn_z {x : D} {S : Store} {val : Nat → D} {ks : List Nat} (h : rd x S = some (dD false zD val ks)) (c : Nat) : dInB (.int (c : Nat)) x S = .ok (decide (c ∈ ks)) S := by
  have e := ke_zD.look2 h c
  have e : dLook x (.int (c : Nat)) S = some (if c ∈ ks then some (val c) else none) := e
  unfold dInB
  rw [e]
  by_cases z : c ∈ ks <;> simp [z]
theorem tinyB (k : Nat) {α : Type} (p : α → Bool) : ∀ l : List α, D.tinyAll (k + 1) (l.map fun x => D.bl (p x)) = true
  | [] => by simp [D.tinyAll]
  | x :: l => by
    rw [List.map_cons]
    simp only [D.tinyAll, D.tiny, Bool.true_and]
    exact tinyB k p l
theorem wtB {α : Type} (p : α → Bool) : ∀ l : List α, D.wtAll (l.map fun x => D.bl (p x)) = 26 * l.length
  | [] => rfl
  | x :: l => by
    rw [List.map_cons]
    simp only [D.wtAll, wtB p l, List.length_cons, D.wt]
    omega
theorem like_b {α : Type} (p : α → Bool) {l : List α} (hl : l.length ≤ 10000) (S : Store) : callP f__law_like [.lst (l.map fun x => D.bl (p x)), .lst (l.map fun x => D.bl (p x))] S = .ok (.bl true) S :=
  call_like (by simp only [D.tiny]; exact tinyB 58 p l) (by simp only [D.wt, wtB]; omega) (by simp only [D.pure]; exact pureAll_map fun _ _ => rfl)
/-! ### lifts, _law_of -/
section
variable {W : Wd}
theorem mids_c {e m u v : Nat} (he : e < W.m) (hm : m < W.m) (h : W.m ≤ 4000) {vs : List Nat} {S : Store} {ρ : Env} {t : TM} {e0 : EM} {g : GM} {it : AM} (hi : it ρ S = .ok ((W.btw2 (W.t e) (W.s m)).map zD) S)
    (hg : ∀ x ∈ W.btw2 (W.t e) (W.s m), ∃ ρ1, g (zD x) (wipe ρ vs) S = .next ρ1 S ∧ t ρ1 S = .ok (W.c e x == (u : Int) && W.c x m == (v : Int)) S ∧ e0 ρ1 S = .ok (zD x) S) : lComp vs it g t e0 ρ S = .ok ((W.mids e m u v).map zD) S := by
  unfold Wd.mids
  have bl := btw2_len W (W.t e) (W.s m)
  have hb := big
  exact comp_of zD (fun l => W.c e l == (u : Int) && W.c l m == (v : Int)) zD hi (fun x hx => let ⟨ρ1, a, b, c⟩ := hg x hx; ⟨ρ1, a, b, fun _ => c⟩) (by omega)
theorem mids_lt {e m u v x : Nat} (hx : x ∈ W.mids e m u v) : x < W.m := by
  unfold Wd.mids at hx
  exact (mem_btw2.mp (List.mem_filter.mp hx).1).lt
theorem mids_len {e m u v : Nat} : (W.mids e m u v).length ≤ W.m := Nat.le_trans (List.length_filter_le _ _) (btw2_len _ _ _)
theorem lifts_ok {e m u v : Nat} (he : e < W.m) (hm : m < W.m) (h : W.m ≤ 4000) {S : Store} : callP f_lifts [W.D, .int (e : Nat), .int (m : Nat), .int (u : Nat), .int (v : Nat)] S = .ok (.tup ((W.mids e m u v).map zD)) S := by
  refine callP_ok (S1 := []) ?_ (by simp [D.pureAll, wd_pure, D.pure]) (by simp only [D.pure]; exact pure_zD _)
  have c1 : c1_lifts [some W.D, some (.int (e : Nat)), some (.int (m : Nat)), some (.int (u : Nat)), some (.int (v : Nat)), some (.tup ((List.range W.m).map W.eD)), some (.tup ((List.range W.m).map W.rD)), some (.tup ((W.btw2 (W.t e) (W.s m)).map zD)), none] [] = .ok ((W.mids e m u v).map zD) [] := by
    unfold c1_lifts
    refine mids_c he hm h (by simp_arith []) (fun x hx => ⟨_, rfl, ?_, by simp_arith [wipe]⟩)
    have hx := (mem_btw2.mp hx).lt
    have k1 := idx_rng (S := []) W.rD he
    have k2 := wRow W e hx []
    have k3 := idx_rng (S := []) W.rD hx
    have k4 := wRow W x hm []
    generalize (List.range W.m).map W.rD = RD at *
    generalize W.D = WD at *
    simp_arith [wipe, zD, k1, k2, k3, k4, eq_int]
    by_cases z1 : W.c e x = (u : Int) <;> by_cases z2 : W.c x m = (v : Int) <;> simp [z1, z2]
  have w1 := fun S => wEnds W S
  have w2 := fun S => wTab W S
  have bt := fun S => btw_ok (W := W) (x := W.t e) (y := W.s m) (S := S) (by omega)
  have j1 := fun S => idx_rng (S := S) W.eD he
  have j2 := fun S => idx_rng (S := S) W.eD hm
  have g4 := fun f S => wDst W f S
  have g5 := fun f S => wSrc W f S
  generalize (W.mids e m u v).map zD = MM at *
  generalize (W.btw2 (W.t e) (W.s m)).map zD = BB at *
  generalize (List.range W.m).map W.eD = ED at *
  generalize (List.range W.m).map W.rD = RD at *
  generalize W.D = WD at *
  simp_arith [f_lifts, m_lifts, w1, w2, j1, j2, g4, g5, bt, c1, tupD, rd]
theorem law_of_ok {L : List Q4} (hL : L ≠ []) (hl : L.length ≤ 1000000) {k l : Nat} {S : Store} (d : Dw (k + 1) l S) : ∃ q S', q ∈ L ∧ callS f__law_of [.loc l, .lst (L.map sqD)] S = .ok (sqD q) S' ∧ Dw k l S' ∧ Nx S S' l := by
  have pos : 0 < L.length := List.length_pos_iff.mpr hL
  obtain ⟨r, S', e, hr, d', nx⟩ := draw_call (b := (L.length : Int)) d (by omega) (by omega)
  have hr : r < L.length := by omega
  refine ⟨L[r], S', List.getElem_mem hr, callS_of (l := l) ?_ (by simp [sqD, D.under, D.underAll]) d'.ok nx, d', nx⟩
  have ln : ∀ S, lenD [.lst (L.map sqD)] S = .ok (.int (L.length : Nat)) S := fun S => by rw [len_lst, List.length_map]
  have ix := idx_l (F := sqD) (S := S') (List.getElem?_eq_getElem hr)
  generalize L.map sqD = LD at *
  simp_arith [f__law_of, m__law_of, ln, e, ix]
end
end Mi
set_option linter.all false
set_option maxRecDepth 100000
namespace Mi
open PySem L2 L_TE
local macro_rules | `(tactic| simp_arith [$ls,*]) => `(tactic| simp [runF, sSeq, sIf, sAsg, sRet, sRetN, sNext, sDrop, sBrk, sCont, sPar, gName, gTup, gSeq, gSub, eOp1, eOp2, eVar, eC, eBlt, lBlt, lOp1, lOp2, sl3, aOne, aCons, aNil, eTup, lOf, eFrz, eNew, eIf, eB, tB, tNot, tAnd, tOr, tOp2, tChain, eAnd, eOr, eCall, eMth, Res.toS, SRes.seq, SRes.only, Res.bind, iOf, items, iRange1, iRange2, iEnum, enumOf, range1, range2, sFrz, b2, i2, i2c, gtD, ltD, leD, geD, subD, mulD, modD, divD, intD, isN, notN, D.isNon, negD, sizeLine_eq, $ls,*])
def rEv (W : Wd) (l : Nat) (v8 v9 v10 v11 v12 v13 v14 v15 v16 v17 v18 v19 : Option D) : Env :=
  [some (.loc l), some W.D, some (.int (W.n : Nat)), some (.tup ((List.range W.m).map W.eD)), some (.tup ((List.range W.m).map W.rD)), some (.int (W.m : Nat)), some W.rowsD, some W.op.D, v8, v9, v10, v11, v12, v13, v14, v15, v16, v17, v18, v19]
def Wd.rowD (W : Wd) (e : Nat) : Mi.D := .lst ((List.range W.m).map fun x => .bl (W.fillB e x))
theorem row1 {W : Wd} {e : Nat} (he : e < W.m) (S : Store) : idxS W.rowsD (.int (e : Nat)) S = .ok (W.rowD e) S := by
  unfold Wd.rowsD
  exact idx_l (F := fun e => D.lst ((List.range W.m).map fun x => .bl (W.fillB e x))) (by rw [List.getElem?_range he])
theorem row2 {W : Wd} {e x : Nat} (hx : x < W.m) (S : Store) : idxS (W.rowD e) (.int (x : Nat)) S = .ok (.bl (W.fillB e x)) S := by
  unfold Wd.rowD
  exact idx_l (F := fun x => D.bl (W.fillB e x)) (by rw [List.getElem?_range hx])
section
variable {W : Wd} (C : IsCat W) (h : W.m ≤ 12) {l : Nat}
include C h
omit h in
theorem comp_of_c' {f g : Nat} (hf : f < W.m) (hg : g < W.m) (q : 0 ≤ W.c f g) : W.t f = W.s g ∧ W.c f g = (W.cn f g : Int) ∧ W.cn f g < W.m := by
  rcases Classical.em (W.t f = W.s g) with e | e
  · have Hg : Hm W (W.t f) (W.t g) g := ⟨hg, e.symm, rfl⟩
    exact ⟨e, C.cc (Hm.of hf) Hg, (C.ch (Hm.of hf) Hg).lt⟩
  · rw [C.gap f g hf hg e] at q
    omega
theorem l1_ir {S : Store} {v8 v9 v10 v11 v12 v13 v14 v15 v16 v17 v18 v19 : Option D} : ∃ v8', l1__law_is_right (rEv W l v8 v9 v10 v11 v12 v13 v14 v15 v16 v17 v18 v19) S = .next (rEv W l v8' v9 v10 v11 v12 v13 v14 v15 v16 v17 v18 v19) S := by
  have hb := big
  obtain ⟨ρ', lp, v8', rfl⟩ := loop_all (S := S) (body := fun d ρ S => ((gName 8) d ρ S).only.seq b1__law_is_right) (fun i : Nat => D.int (i : Nat))
    (fun ρ => ∃ v8, ρ = rEv W l v8 v9 v10 v11 v12 v13 v14 v15 v16 v17 v18 v19) (List.range W.m) (rEv W l v8 v9 v10 v11 v12 v13 v14 v15 v16 v17 v18 v19) ⟨_, rfl⟩ (by
      rintro e he ρ ⟨v8, rfl⟩
      have he := List.mem_range.mp he
      have c1 : c1__law_is_right (rEv W l (some (.int (e : Nat))) v9 v10 v11 v12 v13 v14 v15 v16 v17 v18 v19) S = .ok ((List.range W.m).map fun x => D.bl (W.fillB e x)) S := by
        unfold c1__law_is_right rEv
        refine comp_map (fun i : Nat => D.int (i : Nat)) _ (walk_n (by omega) (by simp_arith [])) (fun g hg => ⟨_, rfl, ?_⟩) (by simp; omega)
        have q := fun S => dfill_ok he (List.mem_range.mp hg) (by omega) (S := S)
        generalize W.D = WD at *
        generalize W.op.D = OD at *
        generalize W.rowsD = ROWS at *
        simp_arith [wipe, q]
      have c2 : c2__law_is_right (rEv W l (some (.int (e : Nat))) v9 v10 v11 v12 v13 v14 v15 v16 v17 v18 v19) S = .ok [] S := by
        unfold c2__law_is_right rEv
        refine comp_nil (fun i : Nat => D.int (i : Nat)) (xs := List.range W.m) (walk_n (by omega) (by simp_arith [])) (fun g hg => ⟨_, rfl, ?_⟩) (by simp; omega)
        have hg := List.mem_range.mp hg
        have q := fun S => dfill_ok (W := W.op) hg he (show W.m ≤ 4000 by omega) (S := S)
        rw [fillB_op C hg he] at q
        have r1 := row1 he S
        have r2 := row2 (W := W) (e := e) hg S
        generalize W.rowD e = RW at *
        generalize W.D = WD at *
        generalize W.op.D = OD at *
        generalize W.rowsD = ROWS at *
        simp_arith [wipe, q, r1, r2, ne_bl]
      have r1 := row1 he S
      have lk := like_b (fun x => W.fillB e x) (l := List.range W.m) (by simp; omega) S
      have nil := ne_nilz [] S
      simp only [List.map_nil, List.isEmpty_nil, Bool.not_true] at nil
      have lk : callP f__law_like [.lst ((List.range W.m).map fun x => D.bl (W.fillB e x)), W.rowD e] S = .ok (.bl true) S := lk
      refine ⟨_, .inl ?_, some (.int (e : Nat)), rfl⟩
      unfold rEv at *
      generalize (List.range W.m).map (fun x => D.bl (W.fillB e x)) = RX at *
      generalize W.rowD e = RW at *
      generalize W.D = WD at *
      generalize W.op.D = OD at *
      generalize W.rowsD = ROWS at *
      unfold b1__law_is_right
      simp_arith [c1, r1, lk, c2, nil])
  refine ⟨v8', ?_⟩
  rw [← lp]
  unfold l1__law_is_right sFor
  rw [walk_n (S1 := S) (m := W.m) (by omega) (by
    unfold rEv
    simp_arith [])]
  rfl
theorem l2_ir {S : Store} {f : Nat} (hf : f < W.m) {val : Nat → D} {v8 v9 v12 v13 v14 v15 v16 v17 v18 v19 : Option D} : ∃ v9', l2__law_is_right (rEv W l v8 v9 (some (dD false zD val W.trs)) (some (.int (f : Nat))) v12 v13 v14 v15 v16 v17 v18 v19) S = .next (rEv W l v8 v9' (some (dD false zD val W.trs)) (some (.int (f : Nat))) v12 v13 v14 v15 v16 v17 v18 v19) S := by
  have hb := big
  obtain ⟨ρ', lp, v9', rfl⟩ := loop_all (S := S) (body := fun d ρ S => ((gName 9) d ρ S).only.seq b2__law_is_right) (fun i : Nat => D.int (i : Nat))
    (fun ρ => ∃ v9, ρ = rEv W l v8 v9 (some (dD false zD val W.trs)) (some (.int (f : Nat))) v12 v13 v14 v15 v16 v17 v18 v19) (List.range W.m) (rEv W l v8 v9 (some (dD false zD val W.trs)) (some (.int (f : Nat))) v12 v13 v14 v15 v16 v17 v18 v19) ⟨_, rfl⟩ (by
      rintro g hg ρ ⟨v9, rfl⟩
      have hg := List.mem_range.mp hg
      have r1 := row1 hf S
      have r2 := row2 (W := W) (e := f) hg S
      have r3 := row1 hg S
      have r4 := row2 (W := W) (e := g) hf S
      have di := dIn_z (x := dD false zD val W.trs) (S := S) (val := val) (ks := W.trs) (by simp [dD, rd]) f
      refine ⟨_, .inl ?_, some (.int (g : Nat)), rfl⟩
      by_cases z : f ∈ W.trs
      · obtain ⟨_, b, i⟩ := (mem_trs C).mp z
        have f1 : W.fillB f g = true := (fillB_iff C hf hg).mpr (Fl.inv' C hg hf i)
        have f2 : W.fillB g f = true := (fillB_iff C hg hf).mpr (Fl.inv C hg hf i)
        rw [f1] at r2
        rw [f2] at r4
        generalize W.rowD f = RW at *
        generalize W.rowD g = RX at *
        generalize dD false zD val W.trs = DD at *
        unfold rEv
        generalize W.D = WD at *
        generalize W.op.D = OD at *
        generalize W.rowsD = ROWS at *
        unfold b2__law_is_right
        simp_arith [r1, r2, r3, r4, di, z]
      · generalize dD false zD val W.trs = DD at *
        unfold rEv
        generalize W.D = WD at *
        generalize W.op.D = OD at *
        generalize W.rowsD = ROWS at *
        unfold b2__law_is_right
        simp_arith [di, z])
  refine ⟨v9', ?_⟩
  rw [← lp]
  unfold l2__law_is_right sFor
  rw [walk_n (S1 := S) (m := W.m) (by omega) (by
    unfold rEv
    simp_arith [])]
  rfl
theorem l3_ir {S : Store} {f : Nat} (hf : f < W.m) {v8 v9 v10 v12 v13 v14 v15 v16 v17 v18 v19 : Option D} : ∃ v9' v12' v13', l3__law_is_right (rEv W l v8 v9 v10 (some (.int (f : Nat))) v12 v13 v14 v15 v16 v17 v18 v19) S = .next (rEv W l v8 v9' v10 (some (.int (f : Nat))) v12' v13' v14 v15 v16 v17 v18 v19) S := by
  have hb := big
  obtain ⟨ρ', lp, v9', v12', v13', rfl⟩ := loop_all (S := S) (body := fun d ρ S => ((gName 9) d ρ S).only.seq b3__law_is_right) (fun i : Nat => D.int (i : Nat))
    (fun ρ => ∃ v9 v12 v13, ρ = rEv W l v8 v9 v10 (some (.int (f : Nat))) v12 v13 v14 v15 v16 v17 v18 v19) (List.range W.m) (rEv W l v8 v9 v10 (some (.int (f : Nat))) v12 v13 v14 v15 v16 v17 v18 v19) ⟨_, _, _, rfl⟩ (by
      rintro g hg ρ ⟨v9, v12, v13, rfl⟩
      have hg := List.mem_range.mp hg
      have k1 := idx_rng (S := S) W.rD hf
      have k2 := wRow W f hg S
      by_cases z : 0 ≤ W.c f g
      · obtain ⟨e1, e2, e3⟩ := comp_of_c' C hf hg z
        have c3 : c3__law_is_right (rEv W l v8 (some (.int (g : Nat))) v10 (some (.int (f : Nat))) (some (.int (W.cn f g : Nat))) v13 v14 v15 v16 v17 v18 v19) S = .ok (((List.range W.m).filter fun e => W.fillB e f && W.fillB e g).map zD) S := by
          unfold c3__law_is_right rEv
          refine comp_of (fun i : Nat => D.int (i : Nat)) _ zD (xs := List.range W.m) (walk_n (by omega) (by simp_arith [])) (fun e he => ⟨_, rfl, ?_, fun _ => by simp_arith [wipe]; rfl⟩) (by simp; omega)
          have he := List.mem_range.mp he
          have r1 := row1 he S
          have r2 := row2 (W := W) (e := e) hf S
          have r3 := row2 (W := W) (e := e) hg S
          generalize W.rowD e = RX at *
          generalize W.D = WD at *
          generalize W.op.D = OD at *
          generalize W.rowsD = ROWS at *
          simp_arith [wipe, r1, r2, r3]
          cases W.fillB e f <;> cases W.fillB e g <;> rfl
        have c4 : c4__law_is_right (rEv W l v8 (some (.int (g : Nat))) v10 (some (.int (f : Nat))) (some (.int (W.cn f g : Nat))) (some (.lst (((List.range W.m).filter fun e => W.fillB e f && W.fillB e g).map zD))) v14 v15 v16 v17 v18 v19) S = .ok [] S := by
          unfold c4__law_is_right rEv
          refine comp_nil zD (xs := (List.range W.m).filter fun e => W.fillB e f && W.fillB e g) (by simp_arith []) (fun e he => ⟨_, rfl, ?_⟩) (Nat.le_trans (List.length_filter_le _ _) (by simp; omega))
          obtain ⟨he, h1⟩ := List.mem_filter.mp he
          have he := List.mem_range.mp he
          rw [Bool.and_eq_true] at h1
          have f1 : W.fillB e (W.cn f g) = true := (fillB_iff C he e3).mpr (Fl.comp C he hf hg e1 ((fillB_iff C he hf).mp h1.1) ((fillB_iff C he hg).mp h1.2))
          have r1 := row1 he S
          have r2 := row2 (W := W) (e := e) e3 S
          rw [f1] at r2
          generalize W.rowD e = RX at *
          generalize W.D = WD at *
          generalize W.op.D = OD at *
          generalize W.rowsD = ROWS at *
          simp_arith [wipe, zD, r1, r2]
        have nil := ne_nilz [] S
        simp only [List.map_nil, List.isEmpty_nil, Bool.not_true] at nil
        rw [e2] at k2
        have nn : (0 : Int) ≤ (W.cn f g : Nat) := Int.natCast_nonneg _
        refine ⟨_, .inl ?_, some (.int (g : Nat)), some (.int (W.cn f g : Nat)), some (.lst (((List.range W.m).filter fun e => W.fillB e f && W.fillB e g).map zD)), rfl⟩
        unfold rEv at *
        generalize ((List.range W.m).filter fun e => W.fillB e f && W.fillB e g).map zD = SM at *
        generalize (List.range W.m).map W.rD = RD at *
        generalize W.D = WD at *
        generalize W.op.D = OD at *
        generalize W.rowsD = ROWS at *
        unfold b3__law_is_right
        simp_arith [k1, k2, nn, c3, c4, nil]
      · refine ⟨_, .inl ?_, some (.int (g : Nat)), some (.int (W.c f g)), v13, rfl⟩
        unfold rEv at *
        generalize (List.range W.m).map W.rD = RD at *
        generalize W.D = WD at *
        generalize W.op.D = OD at *
        generalize W.rowsD = ROWS at *
        unfold b3__law_is_right
        simp_arith [k1, k2, z])
  refine ⟨v9', v12', v13', ?_⟩
  rw [← lp]
  unfold l3__law_is_right sFor
  rw [walk_n (S1 := S) (m := W.m) (by omega) (by
    unfold rEv
    simp_arith [])]
  rfl
theorem l4_ir {S : Store} {val : Nat → D} {v8 v9 v11 v12 v13 v14 v15 v16 v17 v18 v19 : Option D} : ∃ v9' v11' v12' v13', l4__law_is_right (rEv W l v8 v9 (some (dD false zD val W.trs)) v11 v12 v13 v14 v15 v16 v17 v18 v19) S = .next (rEv W l v8 v9' (some (dD false zD val W.trs)) v11' v12' v13' v14 v15 v16 v17 v18 v19) S := by
  have hb := big
  obtain ⟨ρ', lp, v9', v11', v12', v13', rfl⟩ := loop_all (S := S) (body := fun d ρ S => ((gName 11) d ρ S).only.seq b4__law_is_right) (fun i : Nat => D.int (i : Nat))
    (fun ρ => ∃ v9 v11 v12 v13, ρ = rEv W l v8 v9 (some (dD false zD val W.trs)) v11 v12 v13 v14 v15 v16 v17 v18 v19) (List.range W.m) (rEv W l v8 v9 (some (dD false zD val W.trs)) v11 v12 v13 v14 v15 v16 v17 v18 v19) ⟨_, _, _, _, rfl⟩ (by
      rintro f hf ρ ⟨v9, v11, v12, v13, rfl⟩
      have hf := List.mem_range.mp hf
      have r1 := row1 hf S
      have r2 := row2 (W := W) (e := f) hf S
      have di := dIn_z (x := dD false zD val W.trs) (S := S) (val := val) (ks := W.trs) (by simp [dD, rd]) f
      have eq : W.fillB f f = decide (f ∈ W.trs) := by
        rw [Bool.eq_iff_iff, decide_eq_true_eq, mem_trs C, fillB_iff C hf hf]
        exact ⟨fun a => ⟨hf, Fl.self C hf a⟩, fun ⟨_, _, i⟩ => Fl.inv C hf hf i⟩
      rw [eq] at r2
      obtain ⟨a, e2⟩ := l2_ir C h (l := l) (S := S) hf (val := val) (v8 := v8) (v9 := v9) (v12 := v12) (v13 := v13) (v14 := v14) (v15 := v15) (v16 := v16) (v17 := v17) (v18 := v18) (v19 := v19)
      obtain ⟨b, c, d, e3⟩ := l3_ir C h (l := l) (S := S) hf (v8 := v8) (v9 := a) (v10 := some (dD false zD val W.trs)) (v12 := v12) (v13 := v13) (v14 := v14) (v15 := v15) (v16 := v16) (v17 := v17) (v18 := v18) (v19 := v19)
      refine ⟨_, .inl ?_, b, some (.int (f : Nat)), c, d, rfl⟩
      unfold rEv at *
      generalize W.rowD f = RX at *
      generalize dD false zD val W.trs = DD at *
      generalize (List.range W.m).map W.rD = RD at *
      generalize W.D = WD at *
      generalize W.op.D = OD at *
      generalize W.rowsD = ROWS at *
      unfold b4__law_is_right
      simp_arith [r1, r2, di, ne_bl, e2, e3])
  refine ⟨v9', v11', v12', v13', ?_⟩
  rw [← lp]
  unfold l4__law_is_right sFor
  rw [walk_n (S1 := S) (m := W.m) (by omega) (by
    unfold rEv
    simp_arith [])]
  rfl
end
end Mi
set_option linter.all false
set_option maxRecDepth 100000
namespace Mi
open PySem L2 L_TE
local macro_rules | `(tactic| simp_arith [$ls,*]) => `(tactic| simp [runF, sSeq, sIf, sAsg, sRet, sRetN, sNext, sDrop, sBrk, sCont, sPar, gName, gTup, gSeq, gSub, eOp1, eOp2, eVar, eC, eBlt, lBlt, lOp1, lOp2, sl3, aOne, aCons, aNil, eTup, lOf, eFrz, eNew, eIf, eB, tB, tNot, tAnd, tOr, tOp2, tChain, eAnd, eOr, eCall, eMth, Res.toS, SRes.seq, SRes.only, Res.bind, iOf, items, iRange1, iRange2, iEnum, enumOf, range1, range2, sFrz, b2, i2, i2c, gtD, ltD, leD, geD, subD, mulD, modD, divD, intD, isN, notN, D.isNon, negD, sizeLine_eq, $ls,*])
theorem flat_sq (k : Nat) : ∀ L : List Q4, D.flatAll (k + 2) (L.map sqD) = true
  | [] => by simp [D.flatAll]
  | a :: L => by
    rw [List.map_cons]
    unfold D.flatAll
    rw [flat_sq k L]
    simp [sqD, D.flat, D.flatAll]
section
variable {W : Wd} (C : IsCat W) (h : W.m ≤ 12) {k l : Nat}
include C h
theorem b5_ir {S : Store} {L : List Q4} (hL : ∀ q ∈ L, Sq W q) (ne : L ≠ []) (hl : L.length ≤ 1000000) (d : Dw (k + 1) l S) {v8 v9 v10 v11 v12 v13 v15 v16 v17 v18 v19 : Option D} :
    ∃ v8' v13' v16' v17' v18' S', b5__law_is_right (rEv W l v8 v9 v10 v11 v12 v13 (some (.lst (L.map sqD))) v15 v16 v17 v18 v19) S = .next (rEv W l v8' v9 v10 v11 v12 v13' (some (.lst (L.map sqD))) v15 v16' v17' v18' v19) S' ∧ Dw k l S' ∧ Nx S S' l := by
  obtain ⟨⟨e, m, u, v⟩, S', hq, e1, d', nx⟩ := law_of_ok ne hl d
  obtain ⟨he, hm, hu, hv⟩ := hL _ hq
  dsimp only at he hm hu hv
  have e1 : callS f__law_of [.loc l, .lst (L.map sqD)] S = .ok (.tup [.int (e : Nat), .int (m : Nat), .int (u : Nat), .int (v : Nat)]) S' := e1
  have c5 : c5__law_is_right (rEv W l (some (.int (e : Nat))) v9 v10 v11 v12 v13 (some (.lst (L.map sqD))) v15 (some (.int (m : Nat))) (some (.int (u : Nat))) (some (.int (v : Nat))) v19) S' = .ok ((W.mids e m u v).map zD) S' := by
    have bt := fun S => lbtw_ok (W := W) (x := W.t e) (y := W.s m) (S := S) (by omega)
    have j1 := fun S => idx_rng (S := S) W.eD he
    have j2 := fun S => idx_rng (S := S) W.eD hm
    have g4 := fun f S => wDst W f S
    have g5 := fun f S => wSrc W f S
    unfold c5__law_is_right rEv
    refine mids_c he hm (by omega) (by
      generalize (List.range W.m).map W.eD = ED at *
      generalize W.D = WD at *
      simp_arith [bt, j1, j2, g4, g5]) (fun x hx => ⟨_, rfl, ?_, by simp_arith [wipe]⟩)
    have hx := (mem_btw2.mp hx).lt
    have k1 := idx_rng (S := S') W.rD he
    have k2 := wRow W e hx S'
    have k3 := idx_rng (S := S') W.rD hx
    have k4 := wRow W x hm S'
    generalize (List.range W.m).map W.rD = RD at *
    generalize W.D = WD at *
    generalize W.op.D = OD at *
    generalize W.rowsD = ROWS at *
    simp_arith [wipe, zD, k1, k2, k3, k4, eq_int]
    by_cases z1 : W.c e x = (u : Int) <;> by_cases z2 : W.c x m = (v : Int) <;> simp [z1, z2]
  have li := fun S => lifts_ok (W := W) (e := e) (m := m) (u := u) (v := v) he hm (by omega) (S := S)
  have lk := fun S => like_z (l := W.mids e m u v) (fun x hx => by have := mids_lt hx; omega) (by have := mids_len (W := W) (e := e) (m := m) (u := u) (v := v); omega) S
  have df := fun S => dfill_ok he hm (show W.m ≤ 4000 by omega) (S := S)
  have r1 := fun S => row1 he S
  have r2 := fun S => row2 (W := W) (e := e) hm S
  refine ⟨some (.int (e : Nat)), some (.lst ((W.mids e m u v).map zD)), some (.int (m : Nat)), some (.int (u : Nat)), some (.int (v : Nat)), S', ?_, d', nx⟩
  have go : ∀ b : Bool, (∀ S, callP f_does_fill_against [W.D, .int (e : Nat), .int (m : Nat)] S = .ok (.bl b) S) → (∀ S, idxS (W.rowD e) (.int (m : Nat)) S = .ok (.bl b) S) → b5__law_is_right (rEv W l v8 v9 v10 v11 v12 v13 (some (.lst (L.map sqD))) v15 v16 v17 v18 v19) S = .next (rEv W l (some (.int (e : Nat))) v9 v10 v11 v12 (some (.lst ((W.mids e m u v).map zD))) (some (.lst (L.map sqD))) v15 (some (.int (m : Nat))) (some (.int (u : Nat))) (some (.int (v : Nat))) v19) S' := by
    intro b df r2
    unfold rEv at *
    generalize (W.mids e m u v).map zD = MM at *
    generalize L.map sqD = LD at *
    generalize W.rowD e = RX at *
    generalize (List.range W.m).map W.rD = RD at *
    generalize (List.range W.m).map W.eD = ED at *
    generalize W.D = WD at *
    generalize W.op.D = OD at *
    generalize W.rowsD = ROWS at *
    unfold b5__law_is_right
    cases b with
    | true => simp_arith [e1, c5, li, lk, eCallK, pickL, tupD, rd, df, r1, r2, notBl]
    | false => simp_arith [e1, c5, li, lk, eCallK, pickL, tupD, rd, df, r1, r2, notBl]
  exact go _ df r2
theorem l5_ir {S : Store} {L : List Q4} (hL : ∀ q ∈ L, Sq W q) (hl : L.length ≤ 1000000) (d : Dw (k + 6) l S) {v8 v9 v10 v11 v12 v13 v15 v16 v17 v18 v19 : Option D} :
    ∃ v8' v13' v15' v16' v17' v18' S', l5__law_is_right (rEv W l v8 v9 v10 v11 v12 v13 (some (.lst (L.map sqD))) v15 v16 v17 v18 v19) S = .next (rEv W l v8' v9 v10 v11 v12 v13' (some (.lst (L.map sqD))) v15' v16' v17' v18' v19) S' ∧ Dw k l S' ∧ Nx S S' l := by
  have nn : ∀ S, neD (.lst (L.map sqD)) (.lst []) S = .ok (!L.isEmpty) S := fun S => by
    rw [ne_nil (flat_sq 57 L)]
    simp
  by_cases ne : L = []
  · subst ne
    refine ⟨v8, v13, v15, v16, v17, v18, S, ?_, d.less (by omega), Nx.refl _ _⟩
    · unfold l5__law_is_right sFor
      rw [walk_n (S1 := S) (m := 0) (by omega) (by
        unfold rEv
        rw [List.map_nil] at *
        simp_arith [nn])]
      rfl
  obtain ⟨ρ', S', lp, v8', v13', v15', v16', v17', v18', rfl, d', x'⟩ := loop_inv (body := fun d ρ S => ((gName 15) d ρ S).only.seq b5__law_is_right) (fun i : Nat => D.int (i : Nat))
    (fun j ρ T => ∃ v8 v13 v15 v16 v17 v18, ρ = rEv W l v8 v9 v10 v11 v12 v13 (some (.lst (L.map sqD))) v15 v16 v17 v18 v19 ∧ Dw (k + (6 - j)) l T ∧ Nx S T l) (List.range 6) 0
    (rEv W l v8 v9 v10 v11 v12 v13 (some (.lst (L.map sqD))) v15 v16 v17 v18 v19) S ⟨_, _, _, _, _, _, rfl, d, Nx.refl _ _⟩ (by
      rintro j x ρ T hj ⟨v8, v13, v15, v16, v17, v18, rfl, d, nx⟩
      have hjl := (List.getElem?_eq_some_iff.mp hj).1
      rw [List.length_range] at hjl
      rw [Nat.zero_add] at *
      obtain ⟨v8', v13', v16', v17', v18', S', e, d', x'⟩ := b5_ir C h (S := T) (k := k + (6 - (j + 1))) (l := l) hL ne hl (d.less (by omega)) (v8 := v8) (v9 := v9) (v10 := v10) (v11 := v11) (v12 := v12) (v13 := v13) (v15 := some (.int (x : Nat))) (v16 := v16) (v17 := v17) (v18 := v18) (v19 := v19)
      exact ⟨_, S', .inl e, v8', v13', some (.int (x : Nat)), v16', v17', v18', rfl, d', nx.trans x'⟩)
  refine ⟨v8', v13', v15', v16', v17', v18', S', ?_, d'.less (by omega), x'⟩
  rw [← lp]
  have ie : L.isEmpty = false := by simpa using ne
  unfold l5__law_is_right sFor
  rw [walk_n (S1 := S) (m := 6) (by omega) (by
    unfold rEv
    generalize L.map sqD = LD at *
    simp_arith [nn, ie])]
  rfl
theorem is_right_ok {S : Store} (d : Dw (k + 6) l S) : ∃ S', callS f__law_is_right [.loc l, W.D] S = .ok (.bl true) S' ∧ Dw k l S' ∧ Nx S S' l := by
  obtain ⟨L, hL, hl, sq⟩ := squares_ok h
  obtain ⟨val, kn⟩ := turn_ok (W := W) (by omega)
  obtain ⟨a8, e1⟩ := l1_ir C h (l := l) (S := S) (v8 := none) (v9 := none) (v10 := none) (v11 := none) (v12 := none) (v13 := none) (v14 := none) (v15 := none) (v16 := none) (v17 := none) (v18 := none) (v19 := none)
  obtain ⟨a9, a11, a12, a13, e4⟩ := l4_ir C h (l := l) (S := S) (val := val) (v8 := a8) (v9 := none) (v11 := none) (v12 := none) (v13 := none) (v14 := none) (v15 := none) (v16 := none) (v17 := none) (v18 := none) (v19 := none)
  obtain ⟨b8, b13, b15, b16, b17, b18, S', e5, d', nx⟩ := l5_ir C h (k := k) (l := l) (S := S) hL (by omega) d (v8 := a8) (v9 := a9) (v10 := some (dD false zD val W.trs)) (v11 := a11) (v12 := a12) (v13 := a13) (v15 := none) (v16 := none) (v17 := none) (v18 := none) (v19 := none)
  refine ⟨S', callS_of (l := l) ?_ rfl d'.ok nx, d', nx⟩
  have ro := fun S => rows_ok (W := W) (by omega) S
  have tu := fun S => call_turned (W := W) (by omega) S
  have ln : ∀ S, lenD [.tup ((List.range W.m).map W.eD)] S = .ok (.int (W.m : Nat)) S := fun S => by rw [len_tup]; simp
  have un : ∀ S, (sAsg (eVar 1) (gTup [(gName 2), (gName 3), (gName 4)])) [some (.loc l), some W.D, none, none, none, none, none, none, none, none, none, none, none, none, none, none, none, none, none, none] S = .next [some (.loc l), some W.D, some (.int (W.n : Nat)), some (.tup ((List.range W.m).map W.eD)), some (.tup ((List.range W.m).map W.rD)), none, none, none, none, none, none, none, none, none, none, none, none, none, none, none] S := fun S => by
    simp_arith [Wd.D]
  unfold rEv at *
  generalize dD false zD val W.trs = DD at *
  generalize L.map sqD = LD at *
  generalize (List.range W.m).map W.eD = ED at *
  generalize (List.range W.m).map W.rD = RD at *
  generalize W.D = WD at *
  generalize W.op.D = OD at *
  generalize W.rowsD = ROWS at *
  unfold f__law_is_right m__law_is_right
  generalize sAsg (eVar 1) (gTup [(gName 2), (gName 3), (gName 4)]) = U at *
  simp_arith [un, ro, tu, ln, e1, kn, e4, sq, e5]
end
end Mi
set_option linter.all false
set_option maxRecDepth 100000
namespace Mi
open PySem L2 L_TE
local macro_rules | `(tactic| simp_arith [$ls,*]) => `(tactic| simp [runF, sSeq, sIf, sAsg, sRet, sRetN, sNext, sDrop, sBrk, sCont, sPar, gName, gTup, gSeq, gSub, eOp1, eOp2, eVar, eC, eBlt, lBlt, lOp1, lOp2, sl3, aOne, aCons, aNil, eTup, lOf, eFrz, eNew, eIf, eB, tB, tNot, tAnd, tOr, tOp2, tChain, eAnd, eOr, eCall, eMth, Res.toS, SRes.seq, SRes.only, Res.bind, iOf, items, iRange1, iRange2, iEnum, enumOf, range1, range2, sFrz, b2, i2, i2c, gtD, ltD, leD, geD, subD, mulD, modD, divD, intD, isN, notN, D.isNon, negD, sizeLine_eq, $ls,*])
/-- the world of two loops -/
def loops : Wd := ⟨1, 2, fun _ => 0, fun _ => 0, fun f g => if f = 0 ∧ g = 0 then 0 else 1⟩
def noW : Wd := ⟨0, 0, fun _ => 0, fun _ => 0, fun _ _ => 0⟩
theorem loops_cat : IsCat loops where
  nm := by decide
  ids := fun i h => by
    have : i = 0 := Nat.lt_one_iff.mp h
    subst this
    exact ⟨rfl, rfl⟩
  rng := fun f h => ⟨Nat.zero_lt_one, Nat.zero_lt_one⟩
  comp := fun f g hf hg e => by
    by_cases z : f = 0 ∧ g = 0
    · exact ⟨0, by decide, by show (if f = 0 ∧ g = 0 then (0 : Int) else 1) = _; rw [if_pos z]; rfl, rfl, rfl⟩
    · exact ⟨1, by decide, by show (if f = 0 ∧ g = 0 then (0 : Int) else 1) = _; rw [if_neg z]; rfl, rfl, rfl⟩
  gap := fun f g hf hg e => absurd rfl e
  unL := fun f hf => by
    have hf : f < 2 := hf
    obtain rfl | rfl : f = 0 ∨ f = 1 := by omega
    · rfl
    · rfl
  unR := fun f hf => by
    have hf : f < 2 := hf
    obtain rfl | rfl : f = 0 ∨ f = 1 := by omega
    · rfl
    · rfl
  assoc := fun f g h a b hf hg hh _ _ ha hb => by
    have ha : (if f = 0 ∧ g = 0 then (0 : Int) else 1) = a := ha
    have hb : (if g = 0 ∧ h = 0 then (0 : Int) else 1) = b := hb
    show (if a = 0 ∧ h = 0 then (0 : Int) else 1) = if f = 0 ∧ b = 0 then (0 : Int) else 1
    by_cases z1 : f = 0 <;> by_cases z2 : g = 0 <;> by_cases z3 : h = 0 <;> simp [z1, z2, z3] at ha hb <;> simp [z1, z3] <;> omega
theorem noW_cat : IsCat noW where
  nm := by decide
  ids := fun i h => absurd h (Nat.not_lt_zero _)
  rng := fun f h => absurd h (Nat.not_lt_zero _)
  comp := fun f g h _ _ => absurd h (Nat.not_lt_zero _)
  gap := fun f g h _ _ => absurd h (Nat.not_lt_zero _)
  unL := fun f h => absurd h (Nat.not_lt_zero _)
  unR := fun f h => absurd h (Nat.not_lt_zero _)
  assoc := fun f g h a b hf _ _ _ _ _ _ => absurd hf (Nat.not_lt_zero _)
theorem call_loops (S : Store) : callP f__law_loops [.lst [.lst [.int 0, .int 1], .lst [.int 1, .int 1]]] S = .ok loops.D S :=
  callP_ok (S1 := []) (by rfl) (by rfl) (wd_pure loops)
theorem one_ok {W : Wd} (C : IsCat W) (h : W.m ≤ 12) {ns : List Int} (hl : ns.length ≤ 63) {k : Nat} {S : Store} (hS : Ok S) : ∃ S' S'', callF f__law_begun [.lst (ns.map D.int), .int (k : Nat)] S = .ok (.loc S.length) S' ∧ callS f__law_is_right [.loc S.length, W.D] S' = .ok (.bl true) S'' ∧ Ok S'' := by
  obtain ⟨S1, e1, d1, l1, o1⟩ := begun_ok (k := k) hl hS
  obtain ⟨S2, e2, d2, x2⟩ := is_right_ok C h (k := 0) (d1.less (by omega))
  exact ⟨S1, S2, e1, e2, d2.ok⟩
theorem l1_law_ok {ns : List Int} (hl : ns.length ≤ 63) : ∃ v1 S', l1_law [some (.lst (ns.map D.int)), none, none, none] [] = .next [some (.lst (ns.map D.int)), v1, none, none] S' ∧ Ok S' := by
  obtain ⟨W1, C1, n1, m1, w1⟩ := chain_ok (n := 3) (by omega)
  obtain ⟨W2, C2, n2, m2, w2⟩ := ring_ok (k := 3) (by omega) (by omega)
  have cl := cps_len 3
  have hm : ∀ W ∈ [W1, W2, loops, noW], IsCat W ∧ W.m ≤ 12 := by
    intro W hW
    simp only [List.mem_cons, List.not_mem_nil, or_false] at hW
    rcases hW with rfl | rfl | rfl | rfl
    · exact ⟨C1, by omega⟩
    · exact ⟨C2, by omega⟩
    · exact ⟨loops_cat, by decide⟩
    · exact ⟨noW_cat, by decide⟩
  obtain ⟨ρ', S', lp, v1, rfl, ok⟩ := loop_inv (body := fun d ρ S => ((gName 1) d ρ S).only.seq b1_law) Wd.D
    (fun j ρ T => ∃ v1, ρ = [some (.lst (ns.map D.int)), v1, none, none] ∧ Ok T) [W1, W2, loops, noW] 0 [some (.lst (ns.map D.int)), none, none, none] [] ⟨_, rfl, rfl⟩ (by
      rintro j W ρ T hj ⟨v1, rfl, ok⟩
      obtain ⟨C, h⟩ := hm W (List.mem_of_getElem? hj)
      obtain ⟨S1, S2, e1, e2, ok2⟩ := one_ok C h hl (k := 7) ok
      have e1 : callF f__law_begun [.lst (ns.map D.int), .int 7] T = .ok (.loc T.length) S1 := e1
      refine ⟨_, S2, .inl ?_, some W.D, rfl, ok2⟩
      generalize ns.map D.int = NS at *
      generalize W.D = WD at *
      unfold b1_law
      simp_arith [e1, e2])
  refine ⟨v1, S', ?_, ok⟩
  rw [← lp]
  have w1 : ∀ S, callP f__law_chain [.int 3] S = .ok W1.D S := w1
  have w2 : ∀ S, callP f__law_ring [.int 3] S = .ok W2.D S := w2
  have w3 := call_loops
  have w4 : D.tup [.int 0, .tup [], .tup []] = noW.D := rfl
  unfold l1_law sFor
  have mp : [W1, W2, loops, noW].map Wd.D = [W1.D, W2.D, loops.D, D.tup [.int 0, .tup [], .tup []]] := rfl
  rw [mp]
  generalize ns.map D.int = NS at *
  generalize loops.D = WD3 at *
  generalize W1.D = WD1 at *
  generalize W2.D = WD2 at *
  have it : (iOf (eFrz (lOf (aCons (eCall callP 1 f__law_chain (aCons (eC (.int 3)) aNil)) (aCons (eCall callP 1 f__law_ring (aCons (eC (.int 3)) aNil)) (aCons (eCall callP 1 f__law_loops (aCons (eFrz (lOf (aCons (eFrz (lOf (aCons (eC (.int 0)) (aCons (eC (.int 1)) aNil)))) (aCons (eFrz (lOf (aCons (eC (.int 1)) (aCons (eC (.int 1)) aNil)))) aNil)))) aNil)) (aCons (eTup (aCons (eC (.int 0)) (aCons (eTup aNil) (aCons (eTup aNil) aNil)))) aNil))))))) [some (.lst NS), none, none, none] [] = .ok [WD1, WD2, WD3, D.tup [.int 0, .tup [], .tup []]] [] := by
    simp_arith [w1, w2, w3]
  rw [it]
  rfl
theorem b2_law_ok {ns : List Int} (hl : ns.length ≤ 63) {k : Nat} {S : Store} (hS : Ok S) {v1 v3 : Option D} : ∃ w3 S', b2_law [some (.lst (ns.map D.int)), v1, some (.int (k : Nat)), v3] S = .next [some (.lst (ns.map D.int)), v1, some (.int (k : Nat)), w3] S' ∧ Ok S' := by
  obtain ⟨S1, e1, d1, l1, o1⟩ := begun_ok (k := k) hl hS
  obtain ⟨W, S2, C, hn, hm, e2, d2, x2⟩ := drawn_world_ok (k := 10) (t := 4) (most := 12) (by omega) (by omega) (by omega) (by omega) (d1.less (show 10 + 62 ≤ 100000 by omega))
  have e2 : callS f__law_drawn_world [.loc S.length, .int 4, .int 12] S1 = .ok W.D S2 := e2
  obtain ⟨S3, e3, d3, x3⟩ := is_right_ok C hm (k := 0) (d2.less (by omega))
  refine ⟨some (.loc S.length), S3, ?_, d3.ok⟩
  generalize ns.map D.int = NS at *
  generalize W.D = WD at *
  unfold b2_law
  simp_arith [e1, e2, e3]
theorem good (ns : List Int) (h : ns.length ≤ 63) : ∃ S, f_law [.lst (ns.map D.int)] [] = .ok (.bl true) S := by
  have hb := big
  obtain ⟨v1, S1, e1, ok1⟩ := l1_law_ok h
  obtain ⟨ρ', S', lp, v2, v3, rfl, ok⟩ := loop_inv (body := fun d ρ S => ((gName 2) d ρ S).only.seq b2_law) (fun i : Nat => D.int (i : Nat))
    (fun j ρ T => ∃ v2 v3, ρ = [some (.lst (ns.map D.int)), v1, v2, v3] ∧ Ok T) (List.range (max 2 (min ns.length 4))) 0 [some (.lst (ns.map D.int)), v1, none, none] S1
    ⟨_, _, rfl, ok1⟩ (by
      rintro j x ρ T hj ⟨v2, v3, rfl, ok⟩
      obtain ⟨w3, S', e, ok'⟩ := b2_law_ok h (k := x) ok (v1 := v1) (v3 := v3)
      refine ⟨_, S', .inl ?_, some (.int (x : Nat)), w3, rfl, ok'⟩
      simp only [gName, SRes.only_next, SRes.seq_next, List.set_cons_succ, List.set_cons_zero]
      exact e)
  refine ⟨S', ?_⟩
  have it : l2_law [some (.lst (ns.map D.int)), v1, none, none] S1 = .next [some (.lst (ns.map D.int)), v1, v2, v3] S' := by
    rw [← lp]
    unfold l2_law sFor
    rw [walk_n (S1 := S1) (m := max 2 (min ns.length 4)) (by omega) (by
      have ln : ∀ S, lenD [.lst (ns.map D.int)] S = .ok (.int (ns.length : Nat)) S := fun S => by rw [len_lst, List.length_map]
      simp_arith [ln, min2, max2]
      omega)]
    rfl
  unfold f_law m_law
  generalize ns.map D.int = NS at *
  simp_arith [e1, it]
end Mi
open PySem PySem.W PyProof.Rows in
set_option maxRecDepth 100000 in
set_option maxHeartbeats 0 in
theorem PySem.Challenge.cw_arrowworlds_k87_whole_squares_filled_holds : PySem.Challenge.rw_arrowworlds_k87_whole_squares_filled.Holds := by
  w_on; o_law; k_head; (case hw => w_witness2)
  k_fill
  refine Mi.walk_mi (l := PySem.Challenge.rw_arrowworlds_k87_whole_squares_filled) (n := 63) (k := 5) (x := "script") (f := L_TE.f_law) rfl (by decide) rfl ⟨rfl, by decide, by decide⟩ (fun w h Y => PySem.W.kIn_of Y) ?F Mi.good
  case F =>
    intro w mg fa h KX G hmg
    refine' L_TE.fin ⟨KX, G, PySem.W.mg_none_of KX G ?z_enumerate, PySem.W.mg_none_of KX G ?z_int, PySem.W.mg_none_of KX G ?z_len, PySem.W.mg_none_of KX G ?z_list, PySem.W.mg_none_of KX G ?z_max, PySem.W.mg_none_of KX G ?z_min, PySem.W.mg_none_of KX G ?z_range, PySem.W.mg_none_of KX G ?z_repr, PySem.W.mg_none_of KX G ?z_set, PySem.W.mg_none_of KX G ?z_sorted, PySem.W.mg_none_of KX G ?z_tuple⟩ hmg (Mi.DefAt.mk' ?a__law_order ?l__law_order ?c__law_order ?k__law_order) (Mi.DefAt.mk' ?a__law_chain ?l__law_chain ?c__law_chain ?k__law_chain) (Mi.DefAt.mk' ?a__law_loops ?l__law_loops ?c__law_loops ?k__law_loops) (Mi.DefAt.mk' ?a__law_ring ?l__law_ring ?c__law_ring ?k__law_ring) (Mi.DefAt.mk' ?a__law_begun ?l__law_begun ?c__law_begun ?k__law_begun) (Mi.DefAt.mk' ?a__law_between ?l__law_between ?c__law_between ?k__law_between) (Mi.DefAt.mk' ?a__law_turnable ?l__law_turnable ?c__law_turnable ?k__law_turnable) (Mi.DefAt.mk' ?a__law_squares ?l__law_squares ?c__law_squares ?k__law_squares) (Mi.DefAt.mk' ?a__law_fills ?l__law_fills ?c__law_fills ?k__law_fills) (Mi.DefAt.mk' ?a__law_fill_rows ?l__law_fill_rows ?c__law_fill_rows ?k__law_fill_rows) (Mi.DefAt.mk' ?a_turned ?l_turned ?c_turned ?k_turned) (Mi.DefAt.mk' ?a__law_draw ?l__law_draw ?c__law_draw ?k__law_draw) (Mi.DefAt.mk' ?a__law_of ?l__law_of ?c__law_of ?k__law_of) (Mi.DefAt.mk' ?a__law_like ?l__law_like ?c__law_like ?k__law_like) (Mi.DefAt.mk' ?a_between ?l_between ?c_between ?k_between) (Mi.DefAt.mk' ?a_lifts ?l_lifts ?c_lifts ?k_lifts) (Mi.DefAt.mk' ?a_does_fill_against ?l_does_fill_against ?c_does_fill_against ?k_does_fill_against) (Mi.DefAt.mk' ?a__law_is_right ?l__law_is_right ?c__law_is_right ?k__law_is_right) (Mi.DefAt.mk' ?a__law_drawn_order ?l__law_drawn_order ?c__law_drawn_order ?k__law_drawn_order) (Mi.DefAt.mk' ?a__law_turned ?l__law_turned ?c__law_turned ?k__law_turned) (Mi.DefAt.mk' ?a__law_closed_moves ?l__law_closed_moves ?c__law_closed_moves ?k__law_closed_moves) (Mi.DefAt.mk' ?a__law_drawn_moves ?l__law_drawn_moves ?c__law_drawn_moves ?k__law_drawn_moves) (Mi.DefAt.mk' ?a__law_named ?l__law_named ?c__law_named ?k__law_named) (Mi.DefAt.mk' ?a__law_world_of_moves ?l__law_world_of_moves ?c__law_world_of_moves ?k__law_world_of_moves) (Mi.DefAt.mk' ?a__law_sum ?l__law_sum ?c__law_sum ?k__law_sum) (Mi.DefAt.mk' ?a__law_drawn_world ?l__law_drawn_world ?c__law_drawn_world ?k__law_drawn_world) (Mi.DefAt.mk' ?a_law ?l_law ?c_law ?k_law)
    (case a__law_order => k_is)
    (case l__law_order => k_is)
    (case c__law_order => k_is)
    (case k__law_order => k_is)
    (case a__law_chain => k_is)
    (case l__law_chain => k_is)
    (case c__law_chain => k_is)
    (case k__law_chain => k_is)
    (case a__law_loops => k_is)
    (case l__law_loops => k_is)
    (case c__law_loops => k_is)
    (case k__law_loops => k_is)
    (case a__law_ring => k_is)
    (case l__law_ring => k_is)
    (case c__law_ring => k_is)
    (case k__law_ring => k_is)
    (case a__law_begun => k_is)
    (case l__law_begun => k_is)
    (case c__law_begun => k_is)
    (case k__law_begun => k_is)
    (case a__law_between => k_is)
    (case l__law_between => k_is)
    (case c__law_between => k_is)
    (case k__law_between => k_is)
    (case a__law_turnable => k_is)
    (case l__law_turnable => k_is)
    (case c__law_turnable => k_is)
    (case k__law_turnable => k_is)
    (case a__law_squares => k_is)
    (case l__law_squares => k_is)
    (case c__law_squares => k_is)
    (case k__law_squares => k_is)
    (case a__law_fills => k_is)
    (case l__law_fills => k_is)
    (case c__law_fills => k_is)
    (case k__law_fills => k_is)
    (case a__law_fill_rows => k_is)
    (case l__law_fill_rows => k_is)
    (case c__law_fill_rows => k_is)
    (case k__law_fill_rows => k_is)
    (case a_turned => k_is)
    (case l_turned => k_is)
    (case c_turned => k_is)
    (case k_turned => k_is)
    (case a__law_draw => k_is)
    (case l__law_draw => k_is)
    (case c__law_draw => k_is)
    (case k__law_draw => k_is)
    (case a__law_of => k_is)
    (case l__law_of => k_is)
    (case c__law_of => k_is)
    (case k__law_of => k_is)
    (case a__law_like => k_is)
    (case l__law_like => k_is)
    (case c__law_like => k_is)
    (case k__law_like => k_is)
    (case a_between => k_is)
    (case l_between => k_is)
    (case c_between => k_is)
    (case k_between => k_is)
    (case a_lifts => k_is)
    (case l_lifts => k_is)
    (case c_lifts => k_is)
    (case k_lifts => k_is)
    (case a_does_fill_against => k_is)
    (case l_does_fill_against => k_is)
    (case c_does_fill_against => k_is)
    (case k_does_fill_against => k_is)
    (case a__law_is_right => k_is)
    (case l__law_is_right => k_is)
    (case c__law_is_right => k_is)
    (case k__law_is_right => k_is)
    (case a__law_drawn_order => k_is)
    (case l__law_drawn_order => k_is)
    (case c__law_drawn_order => k_is)
    (case k__law_drawn_order => k_is)
    (case a__law_turned => k_is)
    (case l__law_turned => k_is)
    (case c__law_turned => k_is)
    (case k__law_turned => k_is)
    (case a__law_closed_moves => k_is)
    (case l__law_closed_moves => k_is)
    (case c__law_closed_moves => k_is)
    (case k__law_closed_moves => k_is)
    (case a__law_drawn_moves => k_is)
    (case l__law_drawn_moves => k_is)
    (case c__law_drawn_moves => k_is)
    (case k__law_drawn_moves => k_is)
    (case a__law_named => k_is)
    (case l__law_named => k_is)
    (case c__law_named => k_is)
    (case k__law_named => k_is)
    (case a__law_world_of_moves => k_is)
    (case l__law_world_of_moves => k_is)
    (case c__law_world_of_moves => k_is)
    (case k__law_world_of_moves => k_is)
    (case a__law_sum => k_is)
    (case l__law_sum => k_is)
    (case c__law_sum => k_is)
    (case k__law_sum => k_is)
    (case a__law_drawn_world => k_is)
    (case l__law_drawn_world => k_is)
    (case c__law_drawn_world => k_is)
    (case k__law_drawn_world => k_is)
    (case a_law => k_is)
    (case l_law => k_is)
    (case c_law => k_is)
    (case k_law => k_is)
    (case z_enumerate => k_is)
    (case z_int => k_is)
    (case z_len => k_is)
    (case z_list => k_is)
    (case z_max => k_is)
    (case z_min => k_is)
    (case z_range => k_is)
    (case z_repr => k_is)
    (case z_set => k_is)
    (case z_sorted => k_is)
    (case z_tuple => k_is)
