import PyProof.Rows.All
import Wide.All
import OpenK.AllK
import Wide.FinOn
import Lean
import PySem.Challenge.RW_sa0131_01

set_option Elab.async false
set_option autoImplicit false
set_option linter.unusedVariables false
set_option linter.unusedSectionVars false

namespace Mine
noncomputable section

/-- a value of the small language -/
inductive MV where
  | int (i : Int)
  | bool (b : Bool)
  | none
  | ref (a : Nat)
  | unb

/-- a tree keyed by numbers -/
inductive Tr (α : Type) where
  | nil
  | node (v : Option α) (l r : Tr α)

namespace Tr
variable {α : Type}
def get (t : Tr α) : Nat → Option α := Tr.rec (fun _ => Option.none)
  (fun v _ _ gl gr i => Bool.rec (Bool.rec (gr (i / 2 - 1)) (gl (i / 2)) (Nat.beq (i % 2) 1)) v (Nat.beq i 0)) t
def one (f : Nat) (x : α) : Nat → Tr α := Nat.rec (fun _ => .nil)
  (fun _ ih i => Bool.rec (Bool.rec (.node .none .nil (ih (i / 2 - 1))) (.node .none (ih (i / 2)) .nil) (Nat.beq (i % 2) 1)) (.node (some x) .nil .nil) (Nat.beq i 0)) f
def set (t : Tr α) (x : α) : Nat → Tr α := Tr.rec (fun i => one (i + 1) x i)
  (fun v l r sl sr i => Bool.rec (Bool.rec (.node v l (sr (i / 2 - 1))) (.node v (sl (i / 2)) r) (Nat.beq (i % 2) 1)) (.node (some x) l r) (Nat.beq i 0)) t
end Tr

inductive MO where
  | list (n : Nat) (t : Tr MV)
  | tup (vs : List MV)
  | dict (es : List (Int × MV))
  | flds (m : Nat) (fs : List MV)
  | inst (d : Nat)
  | range (lo hi st : Int)

structure Hp where
  n : Nat
  t : Tr MO

abbrev MEnv := List MV
abbrev K1 := MV → Hp → Bool
abbrev KE := MEnv → Hp → K1 → Bool
abbrev KT := MEnv → Hp → (Bool → Hp → Bool) → Bool
abbrev KS := MEnv → Hp → (MEnv → Hp → Bool) → (MEnv → Hp → Bool) → K1 → Bool
abbrev FD := List MV → Hp → K1 → Bool

def MEnv.get (l : MEnv) : Nat → MV := List.rec (fun _ => MV.unb) (fun a _ ih n => Nat.rec a (fun m _ => ih m) n) l
def MEnv.set (l : MEnv) (x : MV) : Nat → MEnv := List.rec (fun _ => []) (fun a r ih n => Nat.rec (x :: r) (fun m _ => a :: ih m) n) l

def inot (x : Int) : Int := Int.rec (fun n => .negSucc n) (fun n => .ofNat n) x
def iand : Int → Int → Int
  | .ofNat a, .ofNat b => .ofNat (Nat.land a b)
  | .ofNat a, .negSucc b => .ofNat (Nat.sub a (Nat.land a b))
  | .negSucc a, .ofNat b => .ofNat (Nat.sub b (Nat.land b a))
  | .negSucc a, .negSucc b => .negSucc (Nat.lor a b)
def ior : Int → Int → Int
  | .ofNat a, .ofNat b => .ofNat (Nat.lor a b)
  | a, b => inot (iand (inot a) (inot b))
def ltI : Int → Int → Bool
  | .ofNat a, .ofNat b => Nat.blt a b
  | .ofNat _, .negSucc _ => false
  | .negSucc _, .ofNat _ => true
  | .negSucc a, .negSucc b => Nat.blt b a
def eqI : Int → Int → Bool
  | .ofNat a, .ofNat b => Nat.beq a b
  | .negSucc a, .negSucc b => Nat.beq a b
  | _, _ => false
/-- between the bounds of what is ranged over, multiplied -/
def inB (x : Int) : Bool := Int.rec (fun n => Nat.blt n 65536) (fun n => Nat.blt n 65536) x

section
variable {α : Type}
def cnd (b : Bool) (x : Bool) : Bool := Bool.rec false x b
def ko (x : Option α) (k : α → Bool) : Bool := Option.rec false k x
def lnth (vs : List α) : Nat → Option α := List.rec (fun _ => .none) (fun a _ ih n => Nat.rec (some a) (fun m _ => ih m) n) vs
def llen (vs : List α) : Nat := List.rec 0 (fun _ _ n => n + 1) vs
end
def asI (v : MV) (k : Int → Bool) : Bool := MV.rec k (fun _ => false) false (fun _ => false) false v
def asB (v : MV) (k : Bool → Bool) : Bool := MV.rec (fun _ => false) k false (fun _ => false) false v
def asR (v : MV) (k : Nat → Bool) : Bool := MV.rec (fun _ => false) (fun _ => false) false k false v
def asNone (v : MV) (k : Bool) : Bool := MV.rec (fun _ => false) (fun _ => false) k (fun _ => false) false v
/-- any value but the unbound one -/
def vOk (v : MV) (k : MV → Bool) : Bool := MV.rec (fun _ => k v) (fun _ => k v) (k v) (fun _ => k v) false v
def notRef (v : MV) (k : Bool) : Bool := MV.rec (fun _ => k) (fun _ => k) k (fun _ => false) false v
def asL (o : MO) (k : Nat → Tr MV → Bool) : Bool := MO.rec k (fun _ => false) (fun _ => false) (fun _ _ => false) (fun _ => false) (fun _ _ _ => false) o
def asT (o : MO) (k : List MV → Bool) : Bool := MO.rec (fun _ _ => false) k (fun _ => false) (fun _ _ => false) (fun _ => false) (fun _ _ _ => false) o
def asD (o : MO) (k : List (Int × MV) → Bool) : Bool := MO.rec (fun _ _ => false) (fun _ => false) k (fun _ _ => false) (fun _ => false) (fun _ _ _ => false) o
def asF (o : MO) (k : Nat → List MV → Bool) : Bool := MO.rec (fun _ _ => false) (fun _ => false) (fun _ => false) k (fun _ => false) (fun _ _ _ => false) o
def asIn (o : MO) (k : Nat → Bool) : Bool := MO.rec (fun _ _ => false) (fun _ => false) (fun _ => false) (fun _ _ => false) k (fun _ _ _ => false) o
def asRg (o : MO) (k : Int → Int → Int → Bool) : Bool := MO.rec (fun _ _ => false) (fun _ => false) (fun _ => false) (fun _ _ => false) (fun _ => false) k o
def asN (i : Int) (k : Nat → Bool) : Bool := Int.rec k (fun _ => false) i
def mtruth (v : MV) (k : Bool → Bool) : Bool := MV.rec (fun i => k (!eqI i (.ofNat 0))) k false (fun _ => false) false v

def look (σ : Hp) (a : Nat) (k : MO → Bool) : Bool := ko (σ.t.get a) k
def mallo (o : MO) (σ : Hp) (k : K1) : Bool := k (.ref σ.n) ⟨σ.n + 1, σ.t.set o σ.n⟩
def put (a : Nat) (o : MO) (σ : Hp) : Hp := ⟨σ.n, σ.t.set o a⟩
def ofList (vs : List MV) : Nat → Tr MV → Tr MV := List.rec (fun _ t => t) (fun v _ ih n t => ih (n+1) (t.set v n)) vs
def mkL (vs : List MV) : MO := .list (llen vs) (ofList vs 0 .nil)
def rep (x : MV) (k : Nat) : Tr MV := Nat.rec .nil (fun i t => t.set x i) k
def dget (i : Int) (es : List (Int × MV)) (k : MV → Bool) : Bool := List.rec false (fun p _ ih => Bool.rec ih (k p.2) (eqI p.1 i)) es
def dset (i : Int) (v : MV) (es : List (Int × MV)) : List (Int × MV) := List.rec [(i, v)] (fun p r ih => Bool.rec (p :: ih) ((i, v) :: r) (eqI p.1 i)) es
def unbs (k : Nat) : MEnv := Nat.rec [] (fun _ l => .unb :: l) k

/-! expressions -/
def eInt (i : Int) : KE := fun _ σ k => k (.int i) σ
def eBool (b : Bool) : KE := fun _ σ k => k (.bool b) σ
def eNone : KE := fun _ σ k => k .none σ
def eLoc (i : Nat) : KE := fun ρ σ k => vOk (ρ.get i) fun v => k v σ
abbrev IOp := Int → Int → (Int → Bool) → Bool
def oAdd : IOp := fun a b k => k (a + b)
def oSub : IOp := fun a b k => k (a - b)
def oMul : IOp := fun a b k => cnd (inB a) (cnd (inB b) (k (a * b)))
def oDiv : IOp := fun a b k => asN a fun m => asN b fun n => cnd (Nat.blt n 65536) (Bool.rec (k (.ofNat (m / n))) false (Nat.beq n 0))
def oMod : IOp := fun a b k => asN a fun m => asN b fun n => Bool.rec (k (.ofNat (m % n))) false (Nat.beq n 0)
def oShl : IOp := fun a b k => asN a fun m => asN b fun n => cnd (Nat.blt m 65536) (cnd (Nat.blt n 64) (k (.ofNat (Nat.shiftLeft m n))))
def oShr : IOp := fun a b k => asN a fun m => asN b fun n => k (.ofNat (Nat.shiftRight m n))
def oAnd : IOp := fun a b k => k (iand a b)
def oOr : IOp := fun a b k => k (ior a b)
def oXor : IOp := fun a b k => k (ior a b - iand a b)
def eBin (op : IOp) (a b : KE) : KE := fun ρ σ k => a ρ σ fun a σ => b ρ σ fun b σ => asI a fun a => asI b fun b => op a b fun c => k (.int c) σ
/-- [x] * m -/
def eRep (a b : KE) : KE := fun ρ σ k => a ρ σ fun a σ => b ρ σ fun b σ => asR a fun a => asI b fun b => asN b fun m => cnd (Nat.blt m 65536) (look σ a fun o => asL o fun n t => cnd (Nat.beq n 1) (ko (t.get 0) fun x => mallo (.list m (rep x m)) σ k))
def eInv (a : KE) : KE := fun ρ σ k => a ρ σ fun a σ => asI a fun a => k (.int (inot a)) σ
def eNeg (a : KE) : KE := fun ρ σ k => a ρ σ fun a σ => asI a fun a => k (.int (-a)) σ
abbrev CF := Int → Int → Bool
def cEq : CF := eqI
def cNe : CF := fun a b => !eqI a b
def cLt : CF := ltI
def cGt : CF := fun a b => ltI b a
def cLe : CF := fun a b => !ltI b a
def cGe : CF := fun a b => !ltI a b
def eCmp (c : CF) (a b : KE) : KE := fun ρ σ k => a ρ σ fun a σ => b ρ σ fun b σ => asI a fun a => asI b fun b => k (.bool (c a b)) σ
def tCmp (c : CF) (a b : KE) : KT := fun ρ σ k => a ρ σ fun a σ => b ρ σ fun b σ => asI a fun a => asI b fun b => k (c a b) σ
/-- a list compared with the empty one -/
def allI (n : Nat) (t : Tr MV) : Bool := Nat.rec true (fun i ih => ko (t.get i) fun v => asI v fun _ => ih) n
def eEqNil (a b : KE) : KE := fun ρ σ k => a ρ σ fun a σ => b ρ σ fun b σ => asR a fun a => asR b fun b => look σ a fun o => asL o fun n t => look σ b fun o => asL o fun m _ => cnd (allI n t) (cnd (Nat.beq m 0) (k (.bool (Nat.beq n 0)) σ))
def tAny (a : KE) : KT := fun ρ σ k => a ρ σ fun v σ => mtruth v fun b => k b σ
/-- and, or: of two; in a test -/
def eAnd (a b : KE) : KE := fun ρ σ k => a ρ σ fun v σ => mtruth v fun t => Bool.rec (k v σ) (b ρ σ k) t
def eOr (a b : KE) : KE := fun ρ σ k => a ρ σ fun v σ => mtruth v fun t => Bool.rec (b ρ σ k) (k v σ) t
def tAnd (a b : KT) : KT := fun ρ σ k => a ρ σ fun t σ => Bool.rec (k false σ) (b ρ σ k) t
def tOr (a b : KT) : KT := fun ρ σ k => a ρ σ fun t σ => Bool.rec (b ρ σ k) (k true σ) t
def eIte (c : KT) (a b : KE) : KE := fun ρ σ k => c ρ σ fun t σ => Bool.rec (b ρ σ k) (a ρ σ k) t
def eAttr (a : KE) (f : Nat) : KE := fun ρ σ k => a ρ σ fun a σ => asR a fun a => look σ a fun o => asIn o fun d => look σ d fun o => asF o fun _ fs => vOk (MEnv.get fs f) fun v => k v σ
def itemL (σ : Hp) (a : Nat) (i : Int) (k : MV → Bool) : Bool := look σ a fun o => asL o fun n t => asN i fun i => cnd (Nat.blt i n) (ko (t.get i) k)
def eSubL (a i : KE) : KE := fun ρ σ k => a ρ σ fun a σ => i ρ σ fun i σ => asR a fun a => asI i fun i => itemL σ a i fun v => k v σ
def eSubD (a i : KE) : KE := fun ρ σ k => a ρ σ fun a σ => i ρ σ fun i σ => asR a fun a => asI i fun i => look σ a fun o => asD o fun es => dget i es fun v => k v σ
def eGsub (vs : List Int) (i : KE) : KE := fun ρ σ k => i ρ σ fun i σ => asI i fun i => asN i fun i => ko (lnth vs i) fun x => k (.int x) σ
def evs (ρ : MEnv) (es : List KE) : Hp → (List MV → Hp → Bool) → Bool := List.rec (fun σ k => k [] σ) (fun e _ ih σ k => e ρ σ fun v σ => ih σ fun vs σ => k (v :: vs) σ) es
def eCall (f : FD) (args : List KE) : KE := fun ρ σ k => evs ρ args σ fun vs σ => f vs σ k
/-- an object made: its fields' dict first, then the instance, then __init__ -/
def eNew (init : FD) (args : List KE) : KE := fun ρ σ k => evs ρ args σ fun vs σ => init (.ref (σ.n + 1) :: vs) ⟨σ.n + 2, (σ.t.set (.flds 0 (unbs 14)) σ.n).set (.inst σ.n) (σ.n + 1)⟩ fun v σ' => asNone v (k (.ref (σ.n + 1)) σ')
def lenV (σ : Hp) (v : MV) (k : Nat → Bool) : Bool := asR v fun a => look σ a fun o => asL o fun n _ => k n
def as1 (vs : List MV) (k : MV → Bool) : Bool := List.rec false (fun v r _ => List.rec (k v) (fun _ _ _ => false) r) vs
def as2 (vs : List MV) (k : MV → MV → Bool) : Bool := List.rec false (fun v r _ => as1 r fun u => k v u) vs
def as3 (vs : List MV) (k : MV → MV → MV → Bool) : Bool := List.rec false (fun v r _ => as2 r fun u t => k v u t) vs
def eLen (a : KE) : KE := fun ρ σ k => evs ρ [a] σ fun vs σ => as1 vs fun v => lenV σ v fun n => k (.int (.ofNat n)) σ
def eRng1 (a : KE) : KE := fun ρ σ k => evs ρ [a] σ fun vs σ => as1 vs fun v => asI v fun b => cnd (inB b) (mallo (.range (.ofNat 0) b (.ofNat 1)) σ k)
def eRng2 (a b : KE) : KE := fun ρ σ k => evs ρ [a, b] σ fun vs σ => as2 vs fun v u => asI v fun a => asI u fun b => cnd (inB a) (cnd (inB b) (mallo (.range a b (.ofNat 1)) σ k))
/-- downward, by ones -/
def eRng3 (a b c : KE) : KE := fun ρ σ k => evs ρ [a, b, c] σ fun vs σ => as3 vs fun v u t => asI v fun a => asI u fun b => asI t fun c => cnd (inB a) (cnd (inB b) (cnd (eqI c (.negSucc 0)) (mallo (.range a b (.negSucc 0)) σ k)))
def eToInt (a : KE) : KE := fun ρ σ k => evs ρ [a] σ fun vs σ => as1 vs fun v => asB v fun b => k (.int (Bool.rec (.ofNat 0) (.ofNat 1) b)) σ
def eApp (a x : KE) : KE := fun ρ σ k => a ρ σ fun a σ => asR a fun a => look σ a fun o => asL o fun _ _ => x ρ σ fun v σ => look σ a fun o => asL o fun n t => cnd (Nat.blt n 65535) (k .none (put a (.list (n+1) (t.set v n)) σ))
def eLst (es : List KE) : KE := fun ρ σ k => evs ρ es σ fun vs σ => cnd (Nat.blt (llen vs) 1000) (mallo (mkL vs) σ k)
def eTup (es : List KE) : KE := fun ρ σ k => evs ρ es σ fun vs σ => cnd (Nat.blt (llen vs) 1000) (mallo (.tup vs) σ k)
def asNil (es : List (Int × MV)) (k : Bool) : Bool := List.rec k (fun _ _ _ => false) es
/-- a dict's display of one pair -/
def eDict1 (a b : KE) : KE := fun ρ σ k => mallo (.dict []) σ fun d σ => a ρ σ fun a σ => b ρ σ fun b σ => asI a fun i => asR d fun d => look σ d fun o => asD o fun es => asNil es (k (.ref d) (put d (.dict [(i, b)]) σ))
def asInts (vs : List MV) : (List Int → Bool) → Bool := List.rec (fun k => k []) (fun v _ ih k => asI v fun i => ih fun is => k (i :: is)) vs
def anyEq (x : Int) (is : List Int) : Bool := List.rec false (fun y _ ih => Bool.rec ih true (eqI y x)) is
/-- in, not in, of a tuple's display -/
def eIn (neg : Bool) (x : KE) (es : List KE) : KE := fun ρ σ k => x ρ σ fun x σ => evs ρ es σ fun vs σ => cnd (Nat.blt (llen vs) 1000) (asI x fun x => asInts vs fun is => k (.bool (Bool.rec (anyEq x is) (!anyEq x is) neg)) σ)
def eBad : KE := fun _ _ _ => false

/-! statements -/
def sNil : KS := fun ρ σ kn _ _ => kn ρ σ
def sSeq (s t : KS) : KS := fun ρ σ kn kc kr => s ρ σ (fun ρ σ => t ρ σ kn kc kr) kc kr
def sExpr (e : KE) : KS := fun ρ σ kn _ _ => e ρ σ fun v σ => notRef v (kn ρ σ)
def sAsg (i : Nat) (e : KE) : KS := fun ρ σ kn _ _ => e ρ σ fun v σ => kn (ρ.set v i) σ
def sAttr (o : KE) (f : Nat) (e : KE) : KS := fun ρ σ kn _ _ => e ρ σ fun v σ => o ρ σ fun o σ => asR o fun a => look σ a fun o => asIn o fun d => look σ d fun o => asF o fun m fs => cnd (Nat.blt m 900) (kn ρ (put d (.flds (m + 1) (MEnv.set fs v f)) σ))
def setL (σ : Hp) (a : Nat) (i : Int) (v : MV) (k : Hp → Bool) : Bool := look σ a fun o => asL o fun n t => asN i fun i => cnd (Nat.blt i n) (k (put a (.list n (t.set v i)) σ))
def sSubL (o i : KE) (e : KE) : KS := fun ρ σ kn _ _ => e ρ σ fun v σ => o ρ σ fun o σ => i ρ σ fun i σ => asR o fun a => asI i fun i => setL σ a i v fun σ => kn ρ σ
def sSubD (o i : KE) (e : KE) : KS := fun ρ σ kn _ _ => e ρ σ fun v σ => o ρ σ fun o σ => i ρ σ fun i σ => asR o fun a => asI i fun i => look σ a fun o => asD o fun es => cnd (Nat.blt (llen es) 65536) (kn ρ (put a (.dict (dset i v es)) σ))
def sAug (i : Nat) (op : IOp) (e : KE) : KS := fun ρ σ kn _ _ => asI (ρ.get i) fun a => e ρ σ fun b σ => asI b fun b => op a b fun c => kn (ρ.set (.int c) i) σ
def sAugSub (o i : KE) (op : IOp) (e : KE) : KS := fun ρ σ kn _ _ => o ρ σ fun o σ => i ρ σ fun i σ => asR o fun a => asI i fun i => itemL σ a i fun x => asI x fun x =>
  e ρ σ fun b σ => asI b fun b => op x b fun c => setL σ a i (.int c) fun σ => kn ρ σ
def binds (is : List Nat) (k : MEnv → Bool) : List MV → MEnv → Bool := List.rec (fun vs ρ => List.rec (k ρ) (fun _ _ _ => false) vs)
  (fun i _ ih vs ρ => List.rec false (fun v vs _ => ih vs (ρ.set v i)) vs) is
def bindT (σ : Hp) (is : List Nat) (v : MV) (ρ : MEnv) (k : MEnv → Bool) : Bool := asR v fun a => look σ a fun o => asT o fun vs => binds is k vs ρ
def sUnp (is : List Nat) (e : KE) : KS := fun ρ σ kn _ _ => e ρ σ fun v σ => bindT σ is v ρ fun ρ => kn ρ σ
/-- two or three names at once from a display: the last is stored first; is is told from behind -/
def sUnpR (is : List Nat) (e : KE) : KS := fun ρ σ kn _ _ => e ρ σ fun v σ => asR v fun a => look σ a fun o => asT o fun vs => binds is (fun ρ => kn ρ σ) vs.reverse ρ
def newEmpties (m : Nat) : Hp → (List MV → Hp → Bool) → Bool := Nat.rec (fun σ k => k [] σ)
  (fun _ ih σ k => ih ⟨σ.n + 1, σ.t.set (.list 0 .nil) σ.n⟩ fun vs σ' => k (.ref σ.n :: vs) σ') m
/-- x = [[] for _ in e] -/
def sEmp (i : Nat) (e : KE) : KS := fun ρ σ kn _ _ => e ρ σ fun v σ => lenV σ v fun n => cnd (Nat.blt n 65536) (newEmpties n σ fun vs σ => mallo (mkL vs) σ fun v σ => kn (ρ.set v i) σ)
def sIf (c : KT) (a b : KS) : KS := fun ρ σ kn kc kr => c ρ σ fun t σ => Bool.rec (b ρ σ kn kc kr) (a ρ σ kn kc kr) t
def whileL (c : KT) (b : KS) (kn : MEnv → Hp → Bool) (kr : K1) (f : Nat) : MEnv → Hp → Bool := Nat.rec (fun _ _ => false)
  (fun _ ih ρ σ => c ρ σ fun t σ => Bool.rec (kn ρ σ) (b ρ σ ih ih kr) t) f
def sWhl (c : KT) (b : KS) : KS := fun ρ σ kn _ kr => whileL c b kn kr 4096 ρ σ
/-- over a range: m turns left -/
def forR (i : Nat) (st : Int) (b : KS) (kn : MEnv → Hp → Bool) (kr : K1) (m : Nat) : Int → MEnv → Hp → Bool := Nat.rec (fun _ ρ σ => kn ρ σ)
  (fun _ ih x ρ σ => b (ρ.set (.int x) i) σ (ih (x + st)) (ih (x + st)) kr) m
def toN (x : Int) : Nat := Int.rec (fun n => n) (fun _ => 0) x
def sForR (i : Nat) (e : KE) (b : KS) : KS := fun ρ σ kn _ kr => e ρ σ fun v σ => asR v fun a => look σ a fun o => asRg o fun lo hi st =>
  Bool.rec (cnd (eqI st (.negSucc 0)) (forR i (.negSucc 0) b kn kr (toN (lo - hi)) lo ρ σ)) (forR i (.ofNat 1) b kn kr (toN (hi - lo)) lo ρ σ) (eqI st (.ofNat 1))
def forL (a : Nat) (bd : MV → MEnv → Hp → (MEnv → Bool) → Bool) (b : KS) (kn : MEnv → Hp → Bool) (kr : K1) (m : Nat) : Nat → MEnv → Hp → Bool := Nat.rec (fun _ _ _ => false)
  (fun _ ih j ρ σ => look σ a fun o => asL o fun n t => Bool.rec (kn ρ σ) (ko (t.get j) fun v => bd v ρ σ fun ρ => b ρ σ (ih (j + 1)) (ih (j + 1)) kr) (Nat.blt j n)) m
def sForL (i : Nat) (e : KE) (b : KS) : KS := fun ρ σ kn _ kr => e ρ σ fun v σ => asR v fun a => forL a (fun v ρ _ k => k (ρ.set v i)) b kn kr 4096 0 ρ σ
def sForT (is : List Nat) (e : KE) (b : KS) : KS := fun ρ σ kn _ kr => e ρ σ fun v σ => asR v fun a => forL a (fun v ρ σ k => bindT σ is v ρ k) b kn kr 4096 0 ρ σ
def sRet (e : KE) : KS := fun ρ σ _ _ kr => e ρ σ kr
def sCont : KS := fun ρ σ _ kc _ => kc ρ σ
def sBad : KS := fun _ _ _ _ _ => false

def fn (np nl : Nat) (body : KS) : FD := fun vs σ k => cnd (Nat.beq (llen vs) np) (body (vs ++ unbs nl) σ (fun _ σ => k .none σ) (fun _ _ => false) k)
end
end Mine

namespace Mine
noncomputable section
-- __init__: self files ranks has_double has_castling
def b_init : KS := (sSeq (sAttr (eLoc 0) 0 (eLoc 1))
   (sSeq (sAttr (eLoc 0) 1 (eLoc 2))
   (sSeq (sAttr (eLoc 0) 2 (eBin oMul (eLoc 1) (eLoc 2)))
   (sSeq (sAttr (eLoc 0) 3 (eBin oSub (eBin oShl (eInt (.ofNat 1)) (eBin oMul (eLoc 1) (eLoc 2))) (eInt (.ofNat 1))))
   (sSeq (sAttr (eLoc 0) 4 (eAnd (eLoc 3) (eCmp cGe (eLoc 2) (eInt (.ofNat 5)))))
   (sSeq (sAttr (eLoc 0) 5 (eLoc 4))
   (sSeq (sAttr (eLoc 0) 6 (eLst []))
   (sSeq (sAttr (eLoc 0) 7 (eLst []))
   (sSeq (sAttr (eLoc 0) 8 (eLst []))
   (sSeq (sAttr (eLoc 0) 9 (eLst []))
   (sSeq (sAttr (eLoc 0) 10 (eLst []))
   (sSeq (sAttr (eLoc 0) 11 (eLst [(eLst []), (eLst [])]))
   (sSeq (sAttr (eLoc 0) 12 (eLst []))
   (sSeq (sAttr (eLoc 0) 13 (eLst []))
   sNil))))))))))))))

def d_init : FD := fn 5 0 b_init

-- is_growing: d
def b_is_growing : KS := (sSeq (sRet (eOr (eCmp cGt (eGsub [(.ofNat 1), (.ofNat 0), (.negSucc 0), (.ofNat 0), (.ofNat 1), (.negSucc 0), (.negSucc 0), (.ofNat 1)] (eLoc 0)) (eInt (.ofNat 0))) (eCmp cEq (eLoc 0) (eInt (.ofNat 1)))))
   sNil)

def d_is_growing : FD := fn 1 0 b_is_growing

-- add_masks: geo row column r f
def b_add_masks : KS := (sSeq (sAsg 1 (eBin oSub (eBin oShl (eInt (.ofNat 1)) (eAttr (eLoc 0) 0)) (eInt (.ofNat 1))))
   (sSeq (sAsg 2 (eInt (.ofNat 0)))
   (sSeq (sForR 3 (eRng1 (eAttr (eLoc 0) 1)) (sSeq (sExpr (eApp (eAttr (eLoc 0) 7) (eBin oShl (eLoc 1) (eBin oMul (eLoc 3) (eAttr (eLoc 0) 0)))))
   (sSeq (sAug 2 oOr (eBin oShl (eInt (.ofNat 1)) (eBin oMul (eLoc 3) (eAttr (eLoc 0) 0))))
   sNil)))
   (sSeq (sForR 4 (eRng1 (eAttr (eLoc 0) 0)) (sSeq (sExpr (eApp (eAttr (eLoc 0) 6) (eBin oShl (eLoc 2) (eLoc 4))))
   sNil))
   sNil))))

def d_add_masks : FD := fn 1 4 b_add_masks

-- inner_squares: geo d edge
def b_inner_squares : KS := (sSeq (sAsg 2 (eInt (.ofNat 0)))
   (sSeq (sIf (tCmp cGt (eGsub [(.ofNat 0), (.ofNat 1), (.ofNat 0), (.negSucc 0), (.ofNat 1), (.ofNat 1), (.negSucc 0), (.negSucc 0)] (eLoc 1)) (eInt (.ofNat 0))) (sSeq (sAug 2 oOr (eSubL (eAttr (eLoc 0) 6) (eBin oSub (eAttr (eLoc 0) 0) (eInt (.ofNat 1)))))
   sNil) sNil)
   (sSeq (sIf (tCmp cLt (eGsub [(.ofNat 0), (.ofNat 1), (.ofNat 0), (.negSucc 0), (.ofNat 1), (.ofNat 1), (.negSucc 0), (.negSucc 0)] (eLoc 1)) (eInt (.ofNat 0))) (sSeq (sAug 2 oOr (eSubL (eAttr (eLoc 0) 6) (eInt (.ofNat 0))))
   sNil) sNil)
   (sSeq (sIf (tCmp cGt (eGsub [(.ofNat 1), (.ofNat 0), (.negSucc 0), (.ofNat 0), (.ofNat 1), (.negSucc 0), (.negSucc 0), (.ofNat 1)] (eLoc 1)) (eInt (.ofNat 0))) (sSeq (sAug 2 oOr (eSubL (eAttr (eLoc 0) 7) (eBin oSub (eAttr (eLoc 0) 1) (eInt (.ofNat 1)))))
   sNil) sNil)
   (sSeq (sIf (tCmp cLt (eGsub [(.ofNat 1), (.ofNat 0), (.negSucc 0), (.ofNat 0), (.ofNat 1), (.negSucc 0), (.negSucc 0), (.ofNat 1)] (eLoc 1)) (eInt (.ofNat 0))) (sSeq (sAug 2 oOr (eSubL (eAttr (eLoc 0) 7) (eInt (.ofNat 0))))
   sNil) sNil)
   (sSeq (sRet (eBin oAnd (eAttr (eLoc 0) 3) (eInv (eLoc 2))))
   sNil))))))

def d_inner_squares : FD := fn 2 1 b_inner_squares

-- add_rays: geo d inner delta ray order square goal
def b_add_rays : KS := (sSeq (sAttr (eLoc 0) 9 (eRep (eLst [(eInt (.ofNat 0))]) (eAttr (eLoc 0) 2)))
   (sSeq (sForR 1 (eRng1 (eInt (.ofNat 8))) (sSeq (sAsg 2 (eCall d_inner_squares [(eLoc 0), (eLoc 1)]))
   (sSeq (sAsg 3 (eBin oAdd (eBin oMul (eGsub [(.ofNat 1), (.ofNat 0), (.negSucc 0), (.ofNat 0), (.ofNat 1), (.negSucc 0), (.negSucc 0), (.ofNat 1)] (eLoc 1)) (eAttr (eLoc 0) 0)) (eGsub [(.ofNat 0), (.ofNat 1), (.ofNat 0), (.negSucc 0), (.ofNat 1), (.ofNat 1), (.negSucc 0), (.negSucc 0)] (eLoc 1))))
   (sSeq (sAsg 4 (eRep (eLst [(eInt (.ofNat 0))]) (eAttr (eLoc 0) 2)))
   (sSeq (sAsg 5 (eRng1 (eAttr (eLoc 0) 2)))
   (sSeq (sIf (tAny (eCall d_is_growing [(eLoc 1)])) (sSeq (sAsg 5 (eRng3 (eBin oSub (eAttr (eLoc 0) 2) (eInt (.ofNat 1))) (eNeg (eInt (.ofNat 1))) (eNeg (eInt (.ofNat 1)))))
   sNil) sNil)
   (sSeq (sForR 6 (eLoc 5) (sSeq (sIf (tAny (eBin oAnd (eBin oShr (eLoc 2) (eLoc 6)) (eInt (.ofNat 1)))) (sSeq (sAsg 7 (eBin oAdd (eLoc 6) (eLoc 3)))
   (sSeq (sSubL (eLoc 4) (eLoc 6) (eBin oOr (eSubL (eLoc 4) (eLoc 7)) (eBin oShl (eInt (.ofNat 1)) (eLoc 7))))
   (sSeq (sAugSub (eAttr (eLoc 0) 9) (eLoc 6) oOr (eBin oShl (eInt (.ofNat 1)) (eLoc 7)))
   sNil))) sNil)
   sNil))
   (sSeq (sExpr (eApp (eAttr (eLoc 0) 8) (eLoc 4)))
   sNil))))))))
   sNil))

def d_add_rays : FD := fn 1 7 b_add_rays

-- add_pawns: geo square
def b_add_pawns : KS := (sSeq (sForR 1 (eRng1 (eAttr (eLoc 0) 2)) (sSeq (sExpr (eApp (eSubL (eAttr (eLoc 0) 11) (eInt (.ofNat 0))) (eBin oAnd (eSubL (eAttr (eLoc 0) 9) (eLoc 1)) (eBin oOr (eSubL (eSubL (eAttr (eLoc 0) 8) (eInt (.ofNat 4))) (eLoc 1)) (eSubL (eSubL (eAttr (eLoc 0) 8) (eInt (.ofNat 7))) (eLoc 1))))))
   (sSeq (sExpr (eApp (eSubL (eAttr (eLoc 0) 11) (eInt (.ofNat 1))) (eBin oAnd (eSubL (eAttr (eLoc 0) 9) (eLoc 1)) (eBin oOr (eSubL (eSubL (eAttr (eLoc 0) 8) (eInt (.ofNat 5))) (eLoc 1)) (eSubL (eSubL (eAttr (eLoc 0) 8) (eInt (.ofNat 6))) (eLoc 1))))))
   sNil)))
   sNil)

def d_add_pawns : FD := fn 1 1 b_add_pawns

-- add_knights: geo files not_first not_last not_first_two not_last_two square b near far found
def b_add_knights : KS := (sSeq (sAsg 1 (eAttr (eLoc 0) 0))
   (sSeq (sAsg 2 (eBin oAnd (eAttr (eLoc 0) 3) (eInv (eSubL (eAttr (eLoc 0) 6) (eInt (.ofNat 0))))))
   (sSeq (sAsg 3 (eBin oAnd (eAttr (eLoc 0) 3) (eInv (eSubL (eAttr (eLoc 0) 6) (eBin oSub (eLoc 1) (eInt (.ofNat 1)))))))
   (sSeq (sAsg 4 (eBin oAnd (eLoc 2) (eInv (eSubL (eAttr (eLoc 0) 6) (eInt (.ofNat 1))))))
   (sSeq (sAsg 5 (eBin oAnd (eLoc 3) (eInv (eSubL (eAttr (eLoc 0) 6) (eBin oSub (eLoc 1) (eInt (.ofNat 2)))))))
   (sSeq (sForR 6 (eRng1 (eAttr (eLoc 0) 2)) (sSeq (sAsg 7 (eBin oShl (eInt (.ofNat 1)) (eLoc 6)))
   (sSeq (sAsg 8 (eBin oOr (eBin oAnd (eBin oShl (eLoc 7) (eInt (.ofNat 1))) (eLoc 2)) (eBin oAnd (eBin oShr (eLoc 7) (eInt (.ofNat 1))) (eLoc 3))))
   (sSeq (sAsg 9 (eBin oOr (eBin oAnd (eBin oShl (eLoc 7) (eInt (.ofNat 2))) (eLoc 4)) (eBin oAnd (eBin oShr (eLoc 7) (eInt (.ofNat 2))) (eLoc 5))))
   (sSeq (sAsg 10 (eBin oOr (eBin oOr (eBin oOr (eBin oShl (eLoc 8) (eBin oMul (eInt (.ofNat 2)) (eLoc 1))) (eBin oShr (eLoc 8) (eBin oMul (eInt (.ofNat 2)) (eLoc 1)))) (eBin oShl (eLoc 9) (eLoc 1))) (eBin oShr (eLoc 9) (eLoc 1))))
   (sSeq (sExpr (eApp (eAttr (eLoc 0) 10) (eBin oAnd (eLoc 10) (eAttr (eLoc 0) 3))))
   sNil))))))
   sNil))))))

def d_add_knights : FD := fn 1 10 b_add_knights

-- add_castles: geo start index base corner way goal
def b_add_castles : KS := (sSeq (sAttr (eLoc 0) 13 (eRep (eLst [(eInt (.ofNat 0))]) (eAttr (eLoc 0) 2)))
   (sSeq (sAsg 1 (eBin oDiv (eAttr (eLoc 0) 0) (eInt (.ofNat 2))))
   (sSeq (sForR 2 (eRng1 (eInt (.ofNat 4))) (sSeq (sAsg 3 (eBin oMul (eBin oMul (eBin oShr (eLoc 2) (eInt (.ofNat 1))) (eBin oSub (eAttr (eLoc 0) 1) (eInt (.ofNat 1)))) (eAttr (eLoc 0) 0)))
   (sSeq (sAsg 4 (eBin oSub (eAttr (eLoc 0) 0) (eInt (.ofNat 1))))
   (sSeq (sAsg 5 (eInt (.ofNat 1)))
   (sSeq (sIf (tAny (eBin oAnd (eLoc 2) (eInt (.ofNat 1)))) (sSeq (sAsg 4 (eInt (.ofNat 0)))
   (sSeq (sAsg 5 (eNeg (eInt (.ofNat 1))))
   sNil)) sNil)
   (sSeq (sAsg 6 (eBin oAdd (eLoc 1) (eBin oMul (eInt (.ofNat 2)) (eLoc 5))))
   (sSeq (sIf (tAnd (tAny (eAttr (eLoc 0) 5)) (tCmp cGt (eBin oMul (eBin oSub (eLoc 4) (eLoc 6)) (eLoc 5)) (eInt (.ofNat 0)))) (sSeq (sExpr (eApp (eAttr (eLoc 0) 12) (eTup [(eBin oAdd (eLoc 3) (eLoc 1)), (eBin oAdd (eLoc 3) (eLoc 6)), (eBin oAdd (eLoc 3) (eLoc 4)), (eBin oSub (eBin oAdd (eLoc 3) (eLoc 6)) (eLoc 5))])))
   (sSeq (sAugSub (eAttr (eLoc 0) 13) (eBin oAdd (eLoc 3) (eLoc 1)) oOr (eBin oShl (eInt (.ofNat 1)) (eLoc 2)))
   (sSeq (sAugSub (eAttr (eLoc 0) 13) (eBin oAdd (eLoc 3) (eLoc 4)) oOr (eBin oShl (eInt (.ofNat 1)) (eLoc 2)))
   sNil))) (sSeq (sExpr (eApp (eAttr (eLoc 0) 12) eNone))
   sNil))
   sNil)))))))
   sNil)))

def d_add_castles : FD := fn 1 6 b_add_castles

-- make_geometry: files ranks has_double has_castling geo
def b_make_geometry : KS := (sSeq (sIf (tOr (tCmp cLt (eLoc 0) (eInt (.ofNat 2))) (tOr (tCmp cGt (eLoc 0) (eInt (.ofNat 8))) (tOr (tCmp cLt (eLoc 1) (eInt (.ofNat 3))) (tCmp cGt (eLoc 1) (eInt (.ofNat 8)))))) (sSeq sBad
   sNil) sNil)
   (sSeq (sAsg 4 (eNew d_init [(eLoc 0), (eLoc 1), (eLoc 2), (eLoc 3)]))
   (sSeq (sExpr (eCall d_add_masks [(eLoc 4)]))
   (sSeq (sExpr (eCall d_add_rays [(eLoc 4)]))
   (sSeq (sExpr (eCall d_add_pawns [(eLoc 4)]))
   (sSeq (sExpr (eCall d_add_knights [(eLoc 4)]))
   (sSeq (sExpr (eCall d_add_castles [(eLoc 4)]))
   (sSeq (sRet (eLoc 4))
   sNil))))))))

def d_make_geometry : FD := fn 4 1 b_make_geometry

-- ray_attacks: geo d square occupied ray stop behind
def b_ray_attacks : KS := (sSeq (sAsg 4 (eSubL (eSubL (eAttr (eLoc 0) 8) (eLoc 1)) (eLoc 2)))
   (sSeq (sAsg 5 (eBin oAnd (eLoc 4) (eLoc 3)))
   (sSeq (sIf (tCmp cEq (eLoc 5) (eInt (.ofNat 0))) (sSeq (sRet (eLoc 4))
   sNil) sNil)
   (sSeq (sIf (tAny (eCall d_is_growing [(eLoc 1)])) (sSeq (sRet (eBin oAnd (eLoc 4) (eBin oXor (eLoc 5) (eBin oSub (eLoc 5) (eInt (.ofNat 1))))))
   sNil) sNil)
   (sSeq (sAsg 6 (eBin oShr (eLoc 5) (eInt (.ofNat 1))))
   (sSeq (sAug 6 oOr (eBin oShr (eLoc 6) (eInt (.ofNat 1))))
   (sSeq (sAug 6 oOr (eBin oShr (eLoc 6) (eInt (.ofNat 2))))
   (sSeq (sAug 6 oOr (eBin oShr (eLoc 6) (eInt (.ofNat 4))))
   (sSeq (sAug 6 oOr (eBin oShr (eLoc 6) (eInt (.ofNat 8))))
   (sSeq (sAug 6 oOr (eBin oShr (eLoc 6) (eInt (.ofNat 16))))
   (sSeq (sAug 6 oOr (eBin oShr (eLoc 6) (eInt (.ofNat 32))))
   (sSeq (sRet (eBin oAnd (eLoc 4) (eInv (eLoc 6))))
   sNil))))))))))))

def d_ray_attacks : FD := fn 4 3 b_ray_attacks

-- rook_attacks: geo square occupied found d
def b_rook_attacks : KS := (sSeq (sAsg 3 (eInt (.ofNat 0)))
   (sSeq (sForR 4 (eRng1 (eInt (.ofNat 4))) (sSeq (sAug 3 oOr (eCall d_ray_attacks [(eLoc 0), (eLoc 4), (eLoc 1), (eLoc 2)]))
   sNil))
   (sSeq (sRet (eLoc 3))
   sNil)))

def d_rook_attacks : FD := fn 3 2 b_rook_attacks

-- bishop_attacks: geo square occupied found d
def b_bishop_attacks : KS := (sSeq (sAsg 3 (eInt (.ofNat 0)))
   (sSeq (sForR 4 (eRng2 (eInt (.ofNat 4)) (eInt (.ofNat 8))) (sSeq (sAug 3 oOr (eCall d_ray_attacks [(eLoc 0), (eLoc 4), (eLoc 1), (eLoc 2)]))
   sNil))
   (sSeq (sRet (eLoc 3))
   sNil)))

def d_bishop_attacks : FD := fn 3 2 b_bishop_attacks

-- queen_attacks: geo square occupied
def b_queen_attacks : KS := (sSeq (sRet (eBin oOr (eCall d_rook_attacks [(eLoc 0), (eLoc 1), (eLoc 2)]) (eCall d_bishop_attacks [(eLoc 0), (eLoc 1), (eLoc 2)])))
   sNil)

def d_queen_attacks : FD := fn 3 0 b_queen_attacks

-- slider_attacks: geo kind square occupied
def b_slider_attacks : KS := (sSeq (sIf (tCmp cEq (eLoc 1) (eInt (.ofNat 3))) (sSeq (sRet (eCall d_bishop_attacks [(eLoc 0), (eLoc 2), (eLoc 3)]))
   sNil) sNil)
   (sSeq (sIf (tCmp cEq (eLoc 1) (eInt (.ofNat 4))) (sSeq (sRet (eCall d_rook_attacks [(eLoc 0), (eLoc 2), (eLoc 3)]))
   sNil) sNil)
   (sSeq (sIf (tCmp cEq (eLoc 1) (eInt (.ofNat 5))) (sSeq (sRet (eCall d_queen_attacks [(eLoc 0), (eLoc 2), (eLoc 3)]))
   sNil) sNil)
   (sSeq (sRet (eInt (.ofNat 0)))
   sNil))))

def d_slider_attacks : FD := fn 4 0 b_slider_attacks

-- piece_attacks: geo side kind square occupied
def b_piece_attacks : KS := (sSeq (sIf (tCmp cEq (eLoc 2) (eInt (.ofNat 1))) (sSeq (sRet (eSubL (eSubL (eAttr (eLoc 0) 11) (eLoc 1)) (eLoc 3)))
   sNil) sNil)
   (sSeq (sIf (tCmp cEq (eLoc 2) (eInt (.ofNat 2))) (sSeq (sRet (eSubL (eAttr (eLoc 0) 10) (eLoc 3)))
   sNil) sNil)
   (sSeq (sIf (tCmp cEq (eLoc 2) (eInt (.ofNat 6))) (sSeq (sRet (eSubL (eAttr (eLoc 0) 9) (eLoc 3)))
   sNil) sNil)
   (sSeq (sRet (eCall d_slider_attacks [(eLoc 0), (eLoc 2), (eLoc 3), (eLoc 4)]))
   sNil))))

def d_piece_attacks : FD := fn 5 0 b_piece_attacks

-- solve: sides after lost values left before queue n m at
def b_solve : KS := (sSeq (sAsg 3 (eRep (eLst [(eInt (.negSucc 0))]) (eLen (eLoc 1))))
   (sSeq (sAsg 4 (eLst []))
   (sSeq (sEmp 5 (eLoc 1))
   (sSeq (sAsg 6 (eLst []))
   (sSeq (sForR 7 (eRng1 (eLen (eLoc 1))) (sSeq (sExpr (eApp (eLoc 4) (eLen (eSubL (eLoc 1) (eLoc 7)))))
   (sSeq (sForL 8 (eSubL (eLoc 1) (eLoc 7)) (sSeq (sIf (tCmp cNe (eLoc 8) (eInt (.negSucc 0))) (sSeq (sExpr (eApp (eSubL (eLoc 5) (eLoc 8)) (eLoc 7)))
   sNil) sNil)
   sNil))
   (sSeq (sIf (tAny (eSubL (eLoc 2) (eLoc 7))) (sSeq (sSubL (eLoc 3) (eLoc 7) (eInt (.ofNat 0)))
   (sSeq (sExpr (eApp (eLoc 6) (eLoc 7)))
   sNil)) sNil)
   sNil))))
   (sSeq (sAsg 9 (eInt (.ofNat 0)))
   (sSeq (sWhl (tCmp cLt (eLoc 9) (eLen (eLoc 6))) (sSeq (sAsg 8 (eSubL (eLoc 6) (eLoc 9)))
   (sSeq (sAug 9 oAdd (eInt (.ofNat 1)))
   (sSeq (sForL 7 (eSubL (eLoc 5) (eLoc 8)) (sSeq (sAugSub (eLoc 4) (eLoc 7) oSub (eInt (.ofNat 1)))
   (sSeq (sIf (tAnd (tCmp cEq (eSubL (eLoc 3) (eLoc 7)) (eInt (.negSucc 0))) (tOr (tCmp cEq (eSubL (eLoc 0) (eLoc 7)) (eInt (.ofNat 0))) (tCmp cEq (eSubL (eLoc 4) (eLoc 7)) (eInt (.ofNat 0))))) (sSeq (sSubL (eLoc 3) (eLoc 7) (eBin oAdd (eSubL (eLoc 3) (eLoc 8)) (eInt (.ofNat 1))))
   (sSeq (sExpr (eApp (eLoc 6) (eLoc 7)))
   sNil)) sNil)
   sNil)))
   sNil))))
   (sSeq (sRet (eLoc 3))
   sNil))))))))

def d_solve : FD := fn 3 7 b_solve

-- index_of: size side strong piece weak
def b_index_of : KS := (sSeq (sRet (eBin oAdd (eBin oMul (eBin oAdd (eBin oMul (eBin oAdd (eBin oMul (eLoc 1) (eLoc 0)) (eLoc 2)) (eLoc 0)) (eLoc 3)) (eLoc 0)) (eLoc 4)))
   sNil)

def d_index_of : FD := fn 5 0 b_index_of

-- parts_of: size n
def b_parts_of : KS := (sSeq (sRet (eTup [(eBin oDiv (eLoc 1) (eBin oMul (eBin oMul (eLoc 0) (eLoc 0)) (eLoc 0))), (eBin oMod (eBin oDiv (eLoc 1) (eBin oMul (eLoc 0) (eLoc 0))) (eLoc 0)), (eBin oMod (eBin oDiv (eLoc 1) (eLoc 0)) (eLoc 0)), (eBin oMod (eLoc 1) (eLoc 0))]))
   sNil)

def d_parts_of : FD := fn 2 0 b_parts_of

-- mark_places: geo kind zone table size places strong piece free checked weak n
def b_mark_places : KS := (sSeq (sAsg 4 (eAttr (eLoc 0) 2))
   (sSeq (sAsg 5 (eLst []))
   (sSeq (sForR 6 (eRng1 (eLoc 4)) (sSeq (sForR 7 (eRng1 (eLoc 4)) (sSeq (sAsg 8 (eBin oAnd (eAttr (eLoc 0) 3) (eInv (eBin oOr (eBin oOr (eSubL (eAttr (eLoc 0) 9) (eLoc 6)) (eBin oShl (eInt (.ofNat 1)) (eLoc 6))) (eBin oShl (eInt (.ofNat 1)) (eLoc 7))))))
   (sSeq (sIf (tOr (tCmp cEq (eBin oAnd (eBin oShr (eLoc 2) (eLoc 6)) (eInt (.ofNat 1))) (eInt (.ofNat 0))) (tOr (tCmp cEq (eLoc 7) (eLoc 6)) (tCmp cEq (eLoc 8) (eInt (.ofNat 0))))) (sSeq sCont
   sNil) sNil)
   (sSeq (sAsg 9 (eCall d_piece_attacks [(eLoc 0), (eInt (.ofNat 0)), (eLoc 1), (eLoc 7), (eBin oShl (eInt (.ofNat 1)) (eLoc 6))]))
   (sSeq (sForR 10 (eRng1 (eLoc 4)) (sSeq (sIf (tAny (eBin oAnd (eBin oShr (eLoc 8) (eLoc 10)) (eInt (.ofNat 1)))) (sSeq (sExpr (eApp (eLoc 5) (eCall d_index_of [(eLoc 4), (eInt (.ofNat 1)), (eLoc 6), (eLoc 7), (eLoc 10)])))
   (sSeq (sIf (tCmp cEq (eBin oAnd (eBin oShr (eLoc 9) (eLoc 10)) (eInt (.ofNat 1))) (eInt (.ofNat 0))) (sSeq (sExpr (eApp (eLoc 5) (eCall d_index_of [(eLoc 4), (eInt (.ofNat 0)), (eLoc 6), (eLoc 7), (eLoc 10)])))
   sNil) sNil)
   sNil)) sNil)
   sNil))
   sNil)))))
   sNil))
   (sSeq (sForL 11 (eLoc 5) (sSeq (sSubL (eLoc 3) (eLoc 11) (eInt (.negSucc 0)))
   sNil))
   (sSeq (sRet (eLoc 5))
   sNil)))))

def d_mark_places : FD := fn 4 8 b_mark_places

-- weak_moves: geo table strong piece weak out steps goal place
def b_weak_moves : KS := (sSeq (sAsg 5 (eLst []))
   (sSeq (sAsg 6 (eSubL (eAttr (eLoc 0) 9) (eLoc 4)))
   (sSeq (sForR 7 (eRng1 (eAttr (eLoc 0) 2)) (sSeq (sIf (tCmp cEq (eBin oAnd (eBin oShr (eLoc 6) (eLoc 7)) (eInt (.ofNat 1))) (eInt (.ofNat 0))) (sSeq sCont
   sNil) sNil)
   (sSeq (sIf (tCmp cEq (eLoc 7) (eLoc 3)) (sSeq (sIf (tCmp cEq (eBin oAnd (eBin oShr (eSubL (eAttr (eLoc 0) 9) (eLoc 2)) (eLoc 3)) (eInt (.ofNat 1))) (eInt (.ofNat 0))) (sSeq (sExpr (eApp (eLoc 5) (eTup [(eLoc 4), (eLoc 7), (eInt (.negSucc 0))])))
   sNil) sNil)
   sNil) (sSeq (sAsg 8 (eCall d_index_of [(eAttr (eLoc 0) 2), (eInt (.ofNat 0)), (eLoc 2), (eLoc 3), (eLoc 7)]))
   (sSeq (sIf (tCmp cNe (eSubL (eLoc 1) (eLoc 8)) (eInt (.negSucc 1))) (sSeq (sExpr (eApp (eLoc 5) (eTup [(eLoc 4), (eLoc 7), (eLoc 8)])))
   sNil) sNil)
   sNil)))
   sNil)))
   (sSeq (sRet (eLoc 5))
   sNil))))

def d_weak_moves : FD := fn 5 4 b_weak_moves

-- strong_moves: geo table kind strong piece weak out steps slides goal place
def b_strong_moves : KS := (sSeq (sAsg 6 (eLst []))
   (sSeq (sAsg 7 (eSubL (eAttr (eLoc 0) 9) (eLoc 3)))
   (sSeq (sAsg 8 (eCall d_piece_attacks [(eLoc 0), (eInt (.ofNat 0)), (eLoc 2), (eLoc 4), (eBin oOr (eBin oShl (eInt (.ofNat 1)) (eLoc 3)) (eBin oShl (eInt (.ofNat 1)) (eLoc 5)))]))
   (sSeq (sForR 9 (eRng1 (eAttr (eLoc 0) 2)) (sSeq (sIf (tAny (eBin oAnd (eBin oShr (eLoc 7) (eLoc 9)) (eInt (.ofNat 1)))) (sSeq (sAsg 10 (eCall d_index_of [(eAttr (eLoc 0) 2), (eInt (.ofNat 1)), (eLoc 9), (eLoc 4), (eLoc 5)]))
   (sSeq (sIf (tCmp cNe (eSubL (eLoc 1) (eLoc 10)) (eInt (.negSucc 1))) (sSeq (sExpr (eApp (eLoc 6) (eTup [(eLoc 3), (eLoc 9), (eLoc 10)])))
   sNil) sNil)
   sNil)) sNil)
   sNil))
   (sSeq (sForR 9 (eRng1 (eAttr (eLoc 0) 2)) (sSeq (sIf (tAny (eBin oAnd (eBin oShr (eLoc 8) (eLoc 9)) (eInt (.ofNat 1)))) (sSeq (sAsg 10 (eCall d_index_of [(eAttr (eLoc 0) 2), (eInt (.ofNat 1)), (eLoc 3), (eLoc 9), (eLoc 5)]))
   (sSeq (sIf (tCmp cNe (eSubL (eLoc 1) (eLoc 10)) (eInt (.negSucc 1))) (sSeq (sExpr (eApp (eLoc 6) (eTup [(eLoc 4), (eLoc 9), (eLoc 10)])))
   sNil) sNil)
   sNil)) sNil)
   sNil))
   (sSeq (sRet (eLoc 6))
   sNil))))))

def d_strong_moves : FD := fn 6 5 b_strong_moves

-- moves_at: geo table kind side strong piece weak
def b_moves_at : KS := (sSeq (sIf (tCmp cEq (eLoc 3) (eInt (.ofNat 1))) (sSeq (sRet (eCall d_weak_moves [(eLoc 0), (eLoc 1), (eLoc 4), (eLoc 5), (eLoc 6)]))
   sNil) sNil)
   (sSeq (sRet (eCall d_strong_moves [(eLoc 0), (eLoc 1), (eLoc 2), (eLoc 4), (eLoc 5), (eLoc 6)]))
   sNil))

def d_moves_at : FD := fn 7 0 b_moves_at

-- build_zone: geo kind zone half table places where k sides after lost n side strong piece weak row origin goal place values
def b_build_zone : KS := (sSeq (sIf (tOr (tCmp cLt (eLoc 1) (eInt (.ofNat 2))) (tCmp cGt (eLoc 1) (eInt (.ofNat 5)))) (sSeq sBad
   sNil) sNil)
   (sSeq (sAsg 3 (eBin oMul (eBin oMul (eAttr (eLoc 0) 2) (eAttr (eLoc 0) 2)) (eAttr (eLoc 0) 2)))
   (sSeq (sAsg 4 (eRep (eLst [(eInt (.negSucc 1))]) (eBin oMul (eInt (.ofNat 2)) (eLoc 3))))
   (sSeq (sAsg 5 (eCall d_mark_places [(eLoc 0), (eLoc 1), (eLoc 2), (eLoc 4)]))
   (sSeq (sAsg 6 (eDict1 (eInt (.negSucc 0)) (eInt (.negSucc 0))))
   (sSeq (sForR 7 (eRng1 (eLen (eLoc 5))) (sSeq (sSubD (eLoc 6) (eSubL (eLoc 5) (eLoc 7)) (eLoc 7))
   sNil))
   (sSeq (sAsg 8 (eLst []))
   (sSeq (sAsg 9 (eLst []))
   (sSeq (sAsg 10 (eLst []))
   (sSeq (sForL 11 (eLoc 5) (sSeq (sUnp [12, 13, 14, 15] (eCall d_parts_of [(eAttr (eLoc 0) 2), (eLoc 11)]))
   (sSeq (sAsg 16 (eLst []))
   (sSeq (sForT [17, 18, 19] (eCall d_moves_at [(eLoc 0), (eLoc 4), (eLoc 1), (eLoc 12), (eLoc 13), (eLoc 14), (eLoc 15)]) (sSeq (sExpr (eApp (eLoc 16) (eSubD (eLoc 6) (eLoc 19))))
   sNil))
   (sSeq (sExpr (eApp (eLoc 8) (eLoc 12)))
   (sSeq (sExpr (eApp (eLoc 9) (eLoc 16)))
   (sSeq (sExpr (eApp (eLoc 10) (eAnd (eCmp cEq (eLoc 12) (eInt (.ofNat 1))) (eAnd (eEqNil (eLoc 16) (eLst [])) (eCmp cEq (eSubL (eLoc 4) (eBin oSub (eLoc 11) (eLoc 3))) (eInt (.negSucc 1)))))))
   sNil)))))))
   (sSeq (sAsg 20 (eCall d_solve [(eLoc 8), (eLoc 9), (eLoc 10)]))
   (sSeq (sForR 7 (eRng1 (eLen (eLoc 5))) (sSeq (sSubL (eLoc 4) (eSubL (eLoc 5) (eLoc 7)) (eSubL (eLoc 20) (eLoc 7)))
   sNil))
   (sSeq (sRet (eLoc 4))
   sNil)))))))))))))

def d_build_zone : FD := fn 3 18 b_build_zone

-- _law_image: square turn files ranks
def b_law_image : KS := (sSeq (sUnpR [3, 2] (eTup [(eBin oMod (eLoc 0) (eInt (.ofNat 2))), (eBin oDiv (eLoc 0) (eInt (.ofNat 2)))]))
   (sSeq (sRet (eBin oAdd (eIte (tCmp cEq (eLoc 1) (eInt (.ofNat 1))) (eLoc 2) (eBin oSub (eInt (.ofNat 1)) (eLoc 2))) (eBin oMul (eInt (.ofNat 2)) (eIte (tCmp cEq (eLoc 1) (eInt (.ofNat 0))) (eLoc 3) (eBin oSub (eInt (.ofNat 2)) (eLoc 3))))))
   sNil))

def d_law_image : FD := fn 2 2 b_law_image

-- law: script cells kind square turn table number side piece weak told image
def b_law3 : KS := (sAsg 5 (eCall d_build_zone [(eCall d_make_geometry [(eInt (.ofNat 2)), (eInt (.ofNat 3)), (eBool false), (eBool false)]), (eLoc 2), (eBin oOr (eBin oShl (eInt (.ofNat 1)) (eLoc 3)) (eBin oShl (eInt (.ofNat 1)) (eCall d_law_image [(eLoc 3), (eLoc 4)])))]))

def b_lawR : KS := (sSeq (sForR 6 (eRng1 (eInt (.ofNat 72))) (sSeq (sUnpR [9, 8, 7] (eTup [(eBin oDiv (eLoc 6) (eInt (.ofNat 36))), (eBin oMod (eBin oDiv (eLoc 6) (eInt (.ofNat 6))) (eInt (.ofNat 6))), (eBin oMod (eLoc 6) (eInt (.ofNat 6)))]))
   (sSeq (sAsg 10 (eSubL (eLoc 5) (eCall d_index_of [(eInt (.ofNat 6)), (eLoc 7), (eLoc 3), (eLoc 8), (eLoc 9)])))
   (sSeq (sAsg 11 (eCall d_index_of [(eInt (.ofNat 6)), (eLoc 7), (eCall d_law_image [(eLoc 3), (eLoc 4)]), (eCall d_law_image [(eLoc 8), (eLoc 4)]), (eCall d_law_image [(eLoc 9), (eLoc 4)])]))
   (sSeq (sIf (tCmp cNe (eLoc 10) (eSubL (eLoc 5) (eLoc 11))) (sSeq (sRet (eBool false))
   sNil) sNil)
   (sSeq (sIf (tAnd (tOr (tAny (eIn false (eLoc 3) [(eLoc 8), (eLoc 9)])) (tCmp cEq (eLoc 8) (eLoc 9))) (tCmp cNe (eLoc 10) (eInt (.negSucc 1)))) (sSeq (sRet (eBool false))
   sNil) sNil)
   (sSeq (sIf (tAnd (tAny (eIn true (eLoc 10) [(eInt (.negSucc 1)), (eInt (.negSucc 0))])) (tCmp cNe (eBin oMod (eLoc 10) (eInt (.ofNat 2))) (eToInt (eCmp cEq (eLoc 7) (eInt (.ofNat 0)))))) (sSeq (sRet (eBool false))
   sNil) sNil)
   sNil)))))))
   (sSeq (sRet (eBool true))
   sNil))

end
end Mine


open PySem PySem.W PyProof.Rows PySem.Calls PySem.Spec

namespace Mine

/-- what the walk knows and does not change -/
structure Cx where
  prog : Program
  w : World
  K : Frag
  p : Program
  loose : List Str
  mean : ExcName → Option Value
  mg : Str → Option Value
  mb : Str → Option Value
  geo : Addr

inductive F2 {α γ : Type} (R : α → γ → Prop) : List α → List γ → Prop
  | nil : F2 R [] []
  | cons {a : α} {b : γ} {l : List α} {l' : List γ} : R a b → F2 R l l' → F2 R (a :: l) (b :: l')
theorem F2.imp {α γ : Type} {R S : α → γ → Prop} (H : ∀ a b, R a b → S a b) {l : List α} {l' : List γ} (h : F2 R l l') : F2 S l l' := by
  induction h with
  | nil => exact .nil
  | cons a _ ih => exact .cons (H _ _ a) ih
theorem F2.length {α γ : Type} {R : α → γ → Prop} {l : List α} {l' : List γ} (h : F2 R l l') : l.length = l'.length := by
  induction h with
  | nil => rfl
  | cons a _ ih => simp [ih]
theorem F2.get {α γ : Type} {R : α → γ → Prop} {l : List α} {l' : List γ} (h : F2 R l l') : ∀ {i : Nat} {a : α}, l[i]? = some a → ∃ b, l'[i]? = some b ∧ R a b := by
  induction h with
  | nil => intro i a e; simp at e
  | cons r _ ih =>
    intro i a e
    cases i with
    | zero => simp at e; subst e; exact ⟨_, rfl, r⟩
    | succ i => simp at e; simpa using ih e

def fieldNames : List Str := [Str.ofString "files", Str.ofString "ranks", Str.ofString "size", Str.ofString "full", Str.ofString "has_double", Str.ofString "has_castling", Str.ofString "file_masks", Str.ofString "rank_masks", Str.ofString "rays", Str.ofString "king", Str.ofString "knight", Str.ofString "pawn", Str.ofString "castles", Str.ofString "rights_lost"]

def EncV (β : List Addr) : MV → Value → Prop
  | .int i, V => ∃ t, V = .int i t
  | .bool b, V => V = .bool b
  | .none, V => V = .none
  | .ref a, V => ∃ x, β[a]? = some x ∧ V = .ref x
  | .unb, _ => False

def FldOk (β : List Addr) (es : List DictEntry) (x : Str) : MV → Prop
  | .unb => getL x es = some none
  | v => ∃ V, getL x es = some (some V) ∧ EncV β v V

def EncO (C : Cx) (β : List Addr) : MO → Obj → Prop
  | .list n t, o => ∃ items ep, o = listOf items ep ∧ items.size = n ∧ n ≤ 65536 ∧ ∀ i, i < n → ∃ v V, t.get i = some v ∧ items[i]? = some V ∧ EncV β v V
  | .tup vs, o => ∃ items : Array Value, o = { cls := .type "tuple", data := .seq items } ∧ F2 (EncV β) vs items.toList
  | .dict es, o => ∃ kvs : List (Int × Value), o.IsDictOf (PySem.intKind C.prog C.w) kvs ∧ F2 (fun e kv => kv.1 = e.1 ∧ EncV β e.2 kv.2) es kvs
  | .flds m fs, o => ∃ es n, o = dictOf es n ∧ es.length ≤ m ∧ fs.length = 14 ∧ (∀ e ∈ es, e.refKey = false) ∧ ∀ i x, fieldNames[i]? = some x → FldOk β es x (MEnv.get fs i)
  | .inst d, o => ∃ x, β[d]? = some x ∧ o = instObj C.geo x
  | .range lo hi st, o => ∃ t u v, o = { cls := .type "range", dict := none, data := .fields #[.int lo t, .int hi u, .int st v], slots := #[] } ∧ Builtin.Range.small lo hi st = true

structure Rel (C : Cx) (β : List Addr) (σ : Hp) (news : List (Addr × Obj)) : Prop where
  addrs : news.map (·.1) = β
  nodup : β.Nodup
  len : β.length = σ.n
  obj : ∀ i x o, news[i]? = some (x, o) → ∃ mo, σ.t.get i = some mo ∧ EncO C β mo o

def LocRel (β : List Addr) (ns : List Str) (ρ : MEnv) (m : Str → Option Value) : Prop :=
  ∀ i x, ns[i]? = some x → MEnv.get ρ i = .unb ∨ ∃ V, m x = some V ∧ EncV β (MEnv.get ρ i) V

/-- the heap that stays, and what else of the call's own must stand as it is -/
structure Hx where
  h : Heap
  X : List (Addr × Obj)
def Dj (h₀ : Hx) (β : List Addr) : Prop := ∀ p ∈ h₀.X, p.1 ∉ β
structure St (C : Cx) (h₀ : Hx) (L : Addr) (ns : List Str) (ρ : MEnv) (σ : Hp) (β : List Addr) (s : Shared) : Prop where
  ex : ∃ m news, Fr h₀.h L s.heap m ∧ News h₀.h L s.heap (news ++ h₀.X) ∧ Rel C β σ news ∧ LocRel β ns ρ m ∧ Dj h₀ β

def Mv (s s' : Shared) : Prop := ∃ h tk, s' = { s with heap := h, toks := tk }

structure Fm (C : Cx) (n : Nat) (A : Around) (scope : Scope) (env : Env) (h₀ : Hx) (L : Addr) : Prop where
  env_eq : ∃ qual f cdv, env = envOf qual scope L f cdv
  kind : scope.kind = .function
  handled : A.handled = none
  depth : A.depth + n ≤ 990
  units : A.units + 10 * n ≤ 9000
  below : ∃ A₀ base outer, Below A₀ base outer h₀.h ∧ A.frames = some (env :: outer)
  inK : C.K.In h₀.h
  top : Top C.p C.loose C.mean C.mg C.mb h₀.h

/-! small facts -/
theorem Mv.refl (s : Shared) : Mv s s := ⟨s.heap, s.toks, rfl⟩
theorem Mv.trans {s s' s'' : Shared} (a : Mv s s') (b : Mv s' s'') : Mv s s'' := by
  obtain ⟨h, t, rfl⟩ := a; obtain ⟨h', t', rfl⟩ := b; exact ⟨h', t', rfl⟩
theorem Mv.to (s : Shared) (h : Heap) (t : Nat) : Mv s { s with heap := h, toks := t } := ⟨h, t, rfl⟩
theorem Mv.heap (s : Shared) (h : Heap) : Mv s { s with heap := h } := ⟨h, s.toks, rfl⟩
theorem Mv.toks (s : Shared) (t : Nat) : Mv s { s with toks := t } := ⟨s.heap, t, rfl⟩

theorem getElem?_prefix {α : Type} {l l' : List α} (h : l <+: l') {i : Nat} {x : α} (e : l[i]? = some x) : l'[i]? = some x := by
  obtain ⟨r, rfl⟩ := h
  rw [List.getElem?_append_left]
  · exact e
  · exact (List.getElem?_eq_some_iff.mp e).1

theorem EncV.mono {β β' : List Addr} (h : β <+: β') : ∀ {v : MV} {V : Value}, EncV β v V → EncV β' v V
  | .int _, _, e => e
  | .bool _, _, e => e
  | .none, _, e => e
  | .ref _, _, ⟨x, e, r⟩ => ⟨x, getElem?_prefix h e, r⟩
  | .unb, _, e => e
theorem EncV.ne_unb {β : List Addr} {v : MV} {V : Value} (h : EncV β v V) : v ≠ .unb := by rintro rfl; exact h

theorem FldOk.mono {β β' : List Addr} (h : β <+: β') {es : List DictEntry} {x : Str} : ∀ {v : MV}, FldOk β es x v → FldOk β' es x v
  | .unb, e => e
  | .int _, ⟨V, a, b⟩ => ⟨V, a, b.mono h⟩
  | .bool _, ⟨V, a, b⟩ => ⟨V, a, b.mono h⟩
  | .none, ⟨V, a, b⟩ => ⟨V, a, b.mono h⟩
  | .ref _, ⟨V, a, b⟩ => ⟨V, a, b.mono h⟩

theorem EncO.mono {C : Cx} {β β' : List Addr} (h : β <+: β') : ∀ {mo : MO} {o : Obj}, EncO C β mo o → EncO C β' mo o
  | .list _ _, _, ⟨items, ep, a, b, c, d⟩ => ⟨items, ep, a, b, c, fun i hi => let ⟨v, V, p, q, r⟩ := d i hi; ⟨v, V, p, q, r.mono h⟩⟩
  | .tup _, _, ⟨items, a, b⟩ => ⟨items, a, F2.imp (fun _ _ x => x.mono h) b⟩
  | .dict _, _, ⟨kvs, a, b⟩ => ⟨kvs, a, F2.imp (fun _ _ x => ⟨x.1, x.2.mono h⟩) b⟩
  | .flds _ _, _, ⟨es, n, a, b, z, c, d⟩ => ⟨es, n, a, b, z, c, fun i x hx => (d i x hx).mono h⟩
  | .inst _, _, ⟨x, a, b⟩ => ⟨x, getElem?_prefix h a, b⟩
  | .range _ _ _, _, e => e

theorem LocRel.mono {β β' : List Addr} (h : β <+: β') {ns : List Str} {ρ : MEnv} {m : Str → Option Value} (r : LocRel β ns ρ m) : LocRel β' ns ρ m :=
  fun i x hx => (r i x hx).imp id fun ⟨V, a, b⟩ => ⟨V, a, b.mono h⟩

theorem get_nil (j : Nat) : MEnv.get [] j = .unb := rfl
theorem get_zero (a : MV) (r : MEnv) : MEnv.get (a :: r) 0 = a := rfl
theorem get_succ (a : MV) (r : MEnv) (j : Nat) : MEnv.get (a :: r) (j + 1) = MEnv.get r j := rfl
theorem set_nil (v : MV) (j : Nat) : MEnv.set [] v j = [] := rfl
theorem set_zero (a v : MV) (r : MEnv) : MEnv.set (a :: r) v 0 = v :: r := rfl
theorem set_succ (a v : MV) (r : MEnv) (j : Nat) : MEnv.set (a :: r) v (j + 1) = a :: MEnv.set r v j := rfl
theorem get_set (ρ : MEnv) (v : MV) : ∀ i j, MEnv.get (MEnv.set ρ v i) j = if j = i then (if i < ρ.length then v else .unb) else MEnv.get ρ j := by
  induction ρ with
  | nil => intro i j; rw [set_nil, get_nil]; simp
  | cons a r ih =>
    intro i j
    cases i with
    | zero => cases j with
      | zero => rw [set_zero, get_zero]; simp
      | succ j => rw [set_zero, get_succ, get_succ]; simp
    | succ i => cases j with
      | zero => rw [set_succ, get_zero, get_zero]; simp
      | succ j => rw [set_succ, get_succ, get_succ, ih i j]; simp

theorem LocRel.set {β : List Addr} {ns : List Str} {ρ : MEnv} {m : Str → Option Value} (hnd : ns.Nodup) (r : LocRel β ns ρ m) {i : Nat} {x : Str} (hx : ns[i]? = some x) {v : MV} {V : Value} (hv : EncV β v V) :
    LocRel β ns (MEnv.set ρ v i) (fun y => if y = x then some V else m y) := by
  intro j y hy
  rw [get_set]
  by_cases hj : j = i
  · subst hj
    rw [hx] at hy; cases hy
    rw [if_pos rfl]
    by_cases hl : j < ρ.length
    · rw [if_pos hl]; exact .inr ⟨V, if_pos rfl, hv⟩
    · rw [if_neg hl]; exact .inl rfl
  · rw [if_neg hj]
    have hne : y ≠ x := by
      rintro rfl
      have a := (List.getElem?_eq_some_iff.mp hx)
      have b := (List.getElem?_eq_some_iff.mp hy)
      obtain ⟨ha, ea⟩ := a
      obtain ⟨hb, eb⟩ := b
      exact hj ((List.getElem_inj (h₀ := hb) (h₁ := ha) hnd).mp (eb.trans ea.symm))
    rcases r j y hy with h | ⟨V', a, b⟩
    · exact .inl h
    · exact .inr ⟨V', by simp [hne, a], b⟩

theorem cnd_true {b x : Bool} (h : cnd b x = true) : b = true ∧ x = true := by
  cases b with
  | true => exact ⟨rfl, h⟩
  | false => cases h
theorem ko_true {α : Type} {x : Option α} {k : α → Bool} (h : ko x k = true) : ∃ a, x = some a ∧ k a = true := by
  cases x with
  | none => cases h
  | some a => exact ⟨a, rfl, h⟩
theorem asI_true {v : MV} {k : Int → Bool} (h : asI v k = true) : ∃ i, v = .int i ∧ k i = true := by
  cases v <;> first | exact ⟨_, rfl, h⟩ | cases h
theorem asB_true {v : MV} {k : Bool → Bool} (h : asB v k = true) : ∃ i, v = .bool i ∧ k i = true := by
  cases v <;> first | exact ⟨_, rfl, h⟩ | cases h
theorem asR_true {v : MV} {k : Nat → Bool} (h : asR v k = true) : ∃ i, v = .ref i ∧ k i = true := by
  cases v <;> first | exact ⟨_, rfl, h⟩ | cases h
theorem asNone_true {v : MV} {k : Bool} (h : asNone v k = true) : v = .none ∧ k = true := by
  cases v <;> first | exact ⟨rfl, h⟩ | cases h
theorem vOk_true {v : MV} {k : MV → Bool} (h : vOk v k = true) : v ≠ .unb ∧ k v = true := by
  cases v <;> first | exact ⟨nofun, h⟩ | exact nomatch h
theorem notRef_true {v : MV} {k : Bool} (h : notRef v k = true) : (∀ a, v ≠ .ref a) ∧ k = true := by
  cases v <;> first | exact ⟨nofun, h⟩ | exact nomatch h
theorem asL_true {o : MO} {k : Nat → Tr MV → Bool} (h : asL o k = true) : ∃ n t, o = .list n t ∧ k n t = true := by
  cases o <;> first | exact ⟨_, _, rfl, h⟩ | cases h
theorem asT_true {o : MO} {k : List MV → Bool} (h : asT o k = true) : ∃ n, o = .tup n ∧ k n = true := by
  cases o <;> first | exact ⟨_, rfl, h⟩ | cases h
theorem asD_true {o : MO} {k : List (Int × MV) → Bool} (h : asD o k = true) : ∃ n, o = .dict n ∧ k n = true := by
  cases o <;> first | exact ⟨_, rfl, h⟩ | cases h
theorem asF_true {o : MO} {k : Nat → List MV → Bool} (h : asF o k = true) : ∃ m n, o = .flds m n ∧ k m n = true := by
  cases o <;> first | exact ⟨_, _, rfl, h⟩ | cases h
theorem asIn_true {o : MO} {k : Nat → Bool} (h : asIn o k = true) : ∃ n, o = .inst n ∧ k n = true := by
  cases o <;> first | exact ⟨_, rfl, h⟩ | cases h
theorem asRg_true {o : MO} {k : Int → Int → Int → Bool} (h : asRg o k = true) : ∃ a b c, o = .range a b c ∧ k a b c = true := by
  cases o <;> first | exact ⟨_, _, _, rfl, h⟩ | cases h
theorem asN_true {i : Int} {k : Nat → Bool} (h : asN i k = true) : ∃ n : Nat, i = .ofNat n ∧ k n = true := by
  cases i <;> first | exact ⟨_, rfl, h⟩ | cases h
theorem mtruth_true {v : MV} {k : Bool → Bool} (h : mtruth v k = true) : (∃ i, v = .int i ∧ k (!eqI i (.ofNat 0)) = true) ∨ ∃ b, v = .bool b ∧ k b = true := by
  cases v <;> first | exact .inl ⟨_, rfl, h⟩ | exact .inr ⟨_, rfl, h⟩ | cases h
theorem look_true {σ : Hp} {a : Nat} {k : MO → Bool} (h : look σ a k = true) : ∃ o, σ.t.get a = some o ∧ k o = true := ko_true h

theorem beq_eqI (a b : Int) : eqI a b = (a == b) := by
  cases a with
  | ofNat m => cases b with
    | ofNat n =>
      show Nat.beq m n = _
      rw [Bool.eq_iff_iff]
      simp
      omega
    | negSucc n => rfl
  | negSucc m => cases b with
    | ofNat n => rfl
    | negSucc n =>
      show Nat.beq m n = _
      rw [Bool.eq_iff_iff]
      simp
theorem ltI_eq (a b : Int) : ltI a b = decide (a < b) := by
  cases a with
  | ofNat m => cases b with
    | ofNat n =>
      show Nat.blt m n = _
      rw [Bool.eq_iff_iff]
      simp [Nat.blt_eq]
    | negSucc n =>
      symm; apply decide_eq_false
      have : (0 : Int) ≤ Int.ofNat m := Int.natCast_nonneg m
      have : Int.negSucc n < 0 := Int.negSucc_lt_zero n
      omega
  | negSucc m => cases b with
    | ofNat n =>
      symm; apply decide_eq_true
      have : (0 : Int) ≤ Int.ofNat n := Int.natCast_nonneg n
      have : Int.negSucc m < 0 := Int.negSucc_lt_zero m
      omega
    | negSucc n =>
      show Nat.blt n m = _
      rw [Bool.eq_iff_iff]
      simp only [Nat.blt_eq, decide_eq_true_eq]
      omega
theorem inB_abs {x : Int} (h : inB x = true) : -65536 ≤ x ∧ x < 65536 := by
  cases x with
  | ofNat n =>
    have : Nat.blt n 65536 = true := h
    rw [Nat.blt_eq] at this
    show (-65536 : Int) ≤ (n : Int) ∧ (n : Int) < 65536
    omega
  | negSucc n =>
    have : Nat.blt n 65536 = true := h
    rw [Nat.blt_eq] at this
    omega
end Mine

namespace Mine

theorem beq_dec (a b : Nat) : Nat.beq a b = decide (a = b) := by
  rw [Bool.eq_iff_iff]; simp
theorem Tr.get_node {α : Type} (v : Option α) (l r : Tr α) (i : Nat) : (Tr.node v l r).get i = if i = 0 then v else if i % 2 = 1 then l.get (i / 2) else r.get (i / 2 - 1) := by
  show (Bool.rec (Bool.rec (r.get (i / 2 - 1)) (l.get (i / 2)) (Nat.beq (i % 2) 1)) v (Nat.beq i 0) : Option α) = _
  rw [beq_dec, beq_dec]
  by_cases h : i = 0
  · simp [h]
  · by_cases q : i % 2 = 1 <;> simp [h, q]
theorem Tr.get_nil {α : Type} (i : Nat) : (Tr.nil : Tr α).get i = none := rfl
theorem Tr.set_node {α : Type} (v : Option α) (l r : Tr α) (x : α) (i : Nat) : (Tr.node v l r).set x i = if i = 0 then .node (some x) l r else if i % 2 = 1 then .node v (l.set x (i / 2)) r else .node v l (r.set x (i / 2 - 1)) := by
  show (Bool.rec (Bool.rec (Tr.node v l (r.set x (i / 2 - 1))) (Tr.node v (l.set x (i / 2)) r) (Nat.beq (i % 2) 1)) (Tr.node (some x) l r) (Nat.beq i 0) : Tr α) = _
  rw [beq_dec, beq_dec]
  by_cases h : i = 0
  · simp [h]
  · by_cases q : i % 2 = 1 <;> simp [h, q]
theorem Tr.set_nil {α : Type} (x : α) (i : Nat) : (Tr.nil : Tr α).set x i = one (i + 1) x i := rfl
theorem Tr.one_succ {α : Type} (f : Nat) (x : α) (i : Nat) : Tr.one (f + 1) x i = if i = 0 then .node (some x) .nil .nil else if i % 2 = 1 then .node none (one f x (i / 2)) .nil else .node none .nil (one f x (i / 2 - 1)) := by
  show (Bool.rec (Bool.rec (Tr.node none .nil (one f x (i / 2 - 1))) (Tr.node none (one f x (i / 2)) .nil) (Nat.beq (i % 2) 1)) (Tr.node (some x) .nil .nil) (Nat.beq i 0) : Tr α) = _
  rw [beq_dec, beq_dec]
  by_cases h : i = 0
  · simp [h]
  · by_cases q : i % 2 = 1 <;> simp [h, q]
theorem Tr.get_one {α : Type} (x : α) : ∀ (f i j : Nat), i < f → (Tr.one f x i).get j = if j = i then some x else none := by
  intro f
  induction f with
  | zero => intro i j h; omega
  | succ f ih =>
    intro i j h
    rw [one_succ]
    by_cases h0 : i = 0
    · subst h0
      rw [if_pos rfl, get_node]
      by_cases hj : j = 0
      · simp [hj]
      · simp only [hj, if_false, get_nil]; split <;> rfl
    · rw [if_neg h0]
      by_cases q : i % 2 = 1
      · rw [if_pos q, get_node, ih _ _ (by omega), get_nil]
        by_cases hj : j = 0
        · subst hj; simp; omega
        · rw [if_neg hj]
          by_cases p : j % 2 = 1
          · rw [if_pos p]
            by_cases e : j = i
            · simp [e]
            · rw [if_neg e, if_neg (by omega)]
          · rw [if_neg p, if_neg (by rintro rfl; omega)]
      · rw [if_neg q, get_node, ih _ _ (by omega), get_nil]
        by_cases hj : j = 0
        · subst hj; simp; omega
        · rw [if_neg hj]
          by_cases p : j % 2 = 1
          · rw [if_pos p, if_neg (by rintro rfl; omega)]
          · rw [if_neg p]
            by_cases e : j = i
            · simp [e]
            · rw [if_neg e, if_neg (by omega)]
theorem Tr.get_set {α : Type} (x : α) : ∀ (t : Tr α) (i j : Nat), (t.set x i).get j = if j = i then some x else t.get j := by
  intro t
  induction t with
  | nil => intro i j; rw [set_nil, get_one _ _ _ _ (by omega), get_nil]
  | node v l r ihl ihr =>
    intro i j
    rw [set_node]
    by_cases h0 : i = 0
    · subst h0
      rw [if_pos rfl, get_node, get_node]
      by_cases hj : j = 0 <;> simp [hj]
    · rw [if_neg h0]
      by_cases q : i % 2 = 1
      · rw [if_pos q, get_node, get_node, ihl]
        by_cases hj : j = 0
        · subst hj; simp; omega
        · simp only [hj, if_false]
          by_cases p : j % 2 = 1
          · simp only [p, if_true]
            by_cases e : j = i
            · simp [e]
            · rw [if_neg e, if_neg (by omega)]
          · simp only [p, if_false]; rw [if_neg (by rintro rfl; omega)]
      · rw [if_neg q, get_node, get_node, ihr]
        by_cases hj : j = 0
        · subst hj; simp; omega
        · simp only [hj, if_false]
          by_cases p : j % 2 = 1
          · simp only [p, if_true]; rw [if_neg (by rintro rfl; omega)]
          · simp only [p, if_false]
            by_cases e : j = i
            · simp [e]
            · rw [if_neg e, if_neg (by omega)]

section
variable {C : Cx} {h₀ : Hx} {g h h' : Heap} {L : Addr} {ns : List Str} {ρ : MEnv} {σ : Hp} {β : List Addr} {s : Shared} {m : Str → Option Value} {news : List (Addr × Obj)}

theorem Rel.at {i : Nat} {x : Addr} (R : Rel C β σ news) (hx : β[i]? = some x) : ∃ o mo, news[i]? = some (x, o) ∧ σ.t.get i = some mo ∧ EncO C β mo o := by
  have e := R.addrs
  have : (news.map (·.1))[i]? = some x := by rw [e]; exact hx
  rw [List.getElem?_map] at this
  cases hn : news[i]? with
  | none => rw [hn] at this; cases this
  | some p =>
    rw [hn] at this
    obtain ⟨y, o⟩ := p
    obtain rfl : y = x := by simpa using this
    obtain ⟨mo, a, b⟩ := R.obj i y o hn
    exact ⟨o, mo, rfl, a, b⟩
theorem news_mem {i : Nat} {p : Addr × Obj} (h : news[i]? = some p) : p ∈ news := List.mem_of_getElem? h

/-- one object of the small heap turned -/
theorem Rel.put (R : Rel C β σ news) {i : Nat} {x : Addr} {o o' : Obj} {mo' : MO} (hx : news[i]? = some (x, o)) (he : EncO C β mo' o') : Rel C β (put i mo' σ) (news.set i (x, o')) := by
  refine ⟨?_, R.nodup, R.len, ?_⟩
  · rw [← R.addrs]
    apply List.ext_getElem?
    intro j
    simp only [List.getElem?_map, List.getElem?_set]
    by_cases hj : i = j
    · subst hj
      have hl : i < news.length := (List.getElem?_eq_some_iff.mp hx).1
      rw [hx]; simp [hl]
    · simp [hj]
  · intro j y q hq
    rw [List.getElem?_set] at hq
    show ∃ mo, (σ.t.set mo' i).get j = some mo ∧ _
    rw [Tr.get_set]
    by_cases hj : i = j
    · subst hj
      have hl : i < news.length := (List.getElem?_eq_some_iff.mp hx).1
      simp [hl] at hq
      obtain ⟨rfl, rfl⟩ := hq
      exact ⟨mo', by simp, he⟩
    · simp [hj] at hq
      rw [if_neg (fun e => hj e.symm)]
      exact R.obj j y q hq

theorem news_put (N : News g L h news) (hnd : (news.map (·.1)).Nodup) {i : Nat} {x : Addr} {o o' : Obj} (hx : news[i]? = some (x, o)) (hs : Heap.SameBut x h h') (ho : h'.get? x = some o') : News g L h' (news.set i (x, o')) := by
  intro p hp
  obtain ⟨j, hj, rfl⟩ := List.getElem_of_mem hp
  have hj' : j < news.length := by simpa using hj
  rw [List.getElem_set]
  by_cases e : i = j
  · subst e
    simp only [if_true]
    have := N _ (news_mem hx)
    exact ⟨ho, this.2⟩
  · simp only [e, if_false]
    have hm : news[j] ∈ news := List.getElem_mem hj'
    have q := N _ hm
    refine ⟨(hs.2 _ ?_).trans q.1, q.2⟩
    intro ex
    have hi : i < news.length := (List.getElem?_eq_some_iff.mp hx).1
    have h1 : (news.map (·.1))[j]'(by simpa using hj') = x := by simpa using ex
    have h2 : (news.map (·.1))[i]'(by simpa using hi) = x := by
      have := (List.getElem?_eq_some_iff.mp hx).2
      simp [this]
    exact e ((List.getElem_inj (h₀ := by simpa using hi) (h₁ := by simpa using hj') hnd).mp (h2.trans h1.symm))

theorem fr_put (F : Fr g L h m) {x : Addr} (hs : Heap.SameBut x h h') (hL : x ≠ L) (hn : g.get? x = none) : Fr g L h' m := by
  refine ⟨?_, fun b o e => ?_, F.above⟩
  · exact F.ns.sameBut hs (Ne.symm hL)
  · have hb : b ≠ x := by rintro rfl; rw [hn] at e; cases e
    exact (hs.2 b hb).trans (F.keep b o e)

theorem memL {news X : List (Addr × Obj)} {i : Nat} {p : Addr × Obj} (h : news[i]? = some p) : p ∈ news ++ X := List.mem_append_left _ (news_mem h)
theorem getL_app {news X : List (Addr × Obj)} {i : Nat} {p : Addr × Obj} (h : news[i]? = some p) : (news ++ X)[i]? = some p := by
  rw [List.getElem?_append_left (List.getElem?_eq_some_iff.mp h).1]; exact h
theorem setL_app {news X : List (Addr × Obj)} {i : Nat} {p q : Addr × Obj} (h : news[i]? = some p) : (news ++ X).set i q = news.set i q ++ X := by
  rw [List.set_append_left _ _ (List.getElem?_eq_some_iff.mp h).1]
/-- the rows beside are left alone -/
theorem news_put2 {news X : List (Addr × Obj)} (N : News g L h (news ++ X)) (hnd : (news.map (·.1)).Nodup) {i : Nat} {x : Addr} {o o' : Obj} (hx : news[i]? = some (x, o)) (hX : ∀ p ∈ X, p.1 ≠ x) (hs : Heap.SameBut x h h') (ho : h'.get? x = some o') : News g L h' (news.set i (x, o') ++ X) := by
  have N1 : News g L h news := fun p hp => N p (List.mem_append_left _ hp)
  have N2 := news_put N1 hnd hx hs ho
  intro p hp
  rcases List.mem_append.mp hp with q | q
  · exact N2 p q
  · have z := N p (List.mem_append_right _ q)
    exact ⟨(hs.2 _ (hX p q)).trans z.1, z.2⟩

/-- an object of the small heap is turned by a step that turns it alone -/
theorem St.put {i : Nat} {x : Addr} {mo' : MO} (S : St C h₀ L ns ρ σ β s) (hx : β[i]? = some x) {h' : Heap} {tk : Nat} (hs : Heap.SameBut x s.heap h') (he : ∃ o', h'.get? x = some o' ∧ EncO C β mo' o') :
    St C h₀ L ns ρ (put i mo' σ) β { s with heap := h', toks := tk } := by
  obtain ⟨m, news, F, N, R, l⟩ := S.ex
  obtain ⟨o, mo, hn, _, _⟩ := R.at hx
  obtain ⟨o', ho', he'⟩ := he
  have q := N _ (memL hn)
  exact ⟨m, _, fr_put F hs q.2.1 q.2.2, news_put2 N (by rw [R.addrs]; exact R.nodup) hn (fun p hp e => l.2 p hp (by rw [e]; exact List.mem_of_getElem? hx)) hs ho', R.put hn he', l⟩

/-- what stands at an address of the small heap -/
theorem St.get {i : Nat} {x : Addr} (S : St C h₀ L ns ρ σ β s) (hx : β[i]? = some x) {mo : MO} (hm : σ.t.get i = some mo) : ∃ o, s.heap.get? x = some o ∧ EncO C β mo o := by
  obtain ⟨m, news, F, N, R, l⟩ := S.ex
  obtain ⟨o, mo', hn, hm', he⟩ := R.at hx
  rw [hm] at hm'; cases hm'
  exact ⟨o, (N _ (memL hn)).1, he⟩

theorem St.toks (S : St C h₀ L ns ρ σ β s) (tk : Nat) : St C h₀ L ns ρ σ β { s with toks := tk } := ⟨S.ex⟩
/-- a heap that keeps all that stood -/
theorem St.keep (S : St C h₀ L ns ρ σ β s) {h' : Heap} {tk : Nat} (hk : ∀ b o, s.heap.get? b = some o → h'.get? b = some o) : St C h₀ L ns ρ σ β { s with heap := h', toks := tk } := by
  obtain ⟨m, news, F, N, R, l⟩ := S.ex
  exact ⟨m, news, F.after hk, fun p hp => ⟨hk _ _ (N p hp).1, (N p hp).2⟩, R, l⟩

theorem not_in_addrs {X : List (Addr × Obj)} (N : News g L h (news ++ X)) (R : Rel C β σ news) : h.objs.size ∉ β := by
  intro hm
  rw [← R.addrs] at hm
  obtain ⟨p, hp, e⟩ := List.mem_map.mp hm
  have := Heap.lt_size (N p (List.mem_append_left _ hp)).1
  rw [e] at this
  exact Nat.lt_irrefl _ this
theorem Dj.push (d : Dj h₀ β) {x : Addr} (hx : ∀ p ∈ h₀.X, p.1 ≠ x) : Dj h₀ (β ++ [x]) := fun p hp hm => by
  rcases List.mem_append.mp hm with q | q
  · exact d p hp q
  · simp at q; exact hx p hp q
theorem not_size (N : News g L h (news ++ h₀.X)) : ∀ p ∈ h₀.X, p.1 ≠ h.objs.size := fun p hp e => by
  have := Heap.lt_size (N p (List.mem_append_right _ hp)).1
  rw [e] at this
  exact Nat.lt_irrefl _ this

/-- a new object of the small heap; its address is new too -/
theorem Rel.push (R : Rel C β σ news) {x : Addr} {o : Obj} {mo : MO} (hx : x ∉ β) (he : EncO C (β ++ [x]) mo o) : Rel C (β ++ [x]) ⟨σ.n + 1, σ.t.set mo σ.n⟩ (news ++ [(x, o)]) := by
  have hl : news.length = σ.n := by rw [← R.len, ← R.addrs]; simp
  refine ⟨by simp [R.addrs], ?_, by simp [R.len], ?_⟩
  · rw [List.nodup_append]
    refine ⟨R.nodup, by simp, ?_⟩
    intro a ha b hb
    simp at hb; subst hb
    rintro rfl; exact hx ha
  · intro j y q hq
    show ∃ mo', (σ.t.set mo σ.n).get j = some mo' ∧ _
    rw [Tr.get_set]
    by_cases hj : j = σ.n
    · subst hj
      rw [← hl] at hq
      simp at hq
      obtain ⟨rfl, rfl⟩ := hq
      exact ⟨mo, by simp, he⟩
    · rw [if_neg hj]
      have hlt : j < news.length := by
        have := (List.getElem?_eq_some_iff.mp hq).1
        simp at this
        omega
      rw [List.getElem?_append_left hlt] at hq
      obtain ⟨mo', a, b⟩ := R.obj j y q hq
      exact ⟨mo', a, b.mono (List.prefix_append _ _)⟩

theorem news_snoc {X : List (Addr × Obj)} {x : Addr} {o : Obj} (N : News g L h' ((x, o) :: (news ++ X))) : News g L h' (news ++ [(x, o)] ++ X) := fun p hp => by
  rcases List.mem_append.mp hp with q | q
  · rcases List.mem_append.mp q with q | q
    · exact N p (.tail _ (List.mem_append_left _ q))
    · simp at q; subst q; exact N _ (.head _)
  · exact N p (.tail _ (List.mem_append_right _ q))
theorem St.push {mo : MO} (S : St C h₀ L ns ρ σ β s) {o : Obj} (he : EncO C (β ++ [s.heap.objs.size]) mo o) (hf : o.isFreed = false) {tk : Nat} :
    St C h₀ L ns ρ ⟨σ.n + 1, σ.t.set mo σ.n⟩ (β ++ [s.heap.objs.size]) { s with heap := s.heap.push o, toks := tk } := by
  obtain ⟨m, news, F, N, R, l⟩ := S.ex
  exact ⟨m, news ++ [(s.heap.objs.size, o)], F.push _, news_snoc (News.push F N o hf), R.push (not_in_addrs N R) he, l.1.mono (List.prefix_append _ _), l.2.push (not_size N)⟩
end
end Mine

namespace Mine

structure SndOp (op : IOp) (o : Operator) : Prop where
  ex : ∀ a b (k : Int → Bool), op a b k = true → ∃ c, k c = true ∧
    (∀ (prog : Program) (w : World) (A : Around) (E : Value → Shared → Prop) (s : Shared) (t u : Tok) (Q : Value → Shared → Prop), (∀ t' tk, Q (.int c t') { s with toks := tk }) → wpAny (model prog w) A (binaryOp o (.int a t) (.int b u)) Q E s) ∧
    (∀ (prog : Program) (w : World) (A : Around) (E : Value → Shared → Prop) (s : Shared) (t u : Tok) (Q : Value → Shared → Prop), (∀ t' tk, Q (.int c t') { s with toks := tk }) → wpAny (model prog w) A (inplaceOp o (.int a t) (.int b u)) Q E s)

theorem inot_eq (x : Int) : inot x = Builtin.bitNot x := by
  unfold Builtin.bitNot
  cases x with
  | ofNat n => show Int.negSucc n = -(n : Int) - 1; omega
  | negSucc n => show (n : Int) = -(Int.negSucc n) - 1; omega
theorem dec_of (n : Nat) : decide ((0 : Int) ≤ Int.ofNat n) = true := decide_eq_true (Int.natCast_nonneg n)
theorem dec_neg (n : Nat) : decide ((0 : Int) ≤ Int.negSucc n) = false := decide_eq_false (by have := Int.negSucc_lt_zero n; omega)
theorem bitNot_neg (n : Nat) : Builtin.bitNot (Int.negSucc n) = Int.ofNat n := by rw [← inot_eq]; rfl
theorem bitNot_of (n : Nat) : Builtin.bitNot (Int.ofNat n) = Int.negSucc n := by rw [← inot_eq]; rfl
theorem iand_eq (x y : Int) : iand x y = Builtin.bitAnd x y := by
  unfold Builtin.bitAnd
  cases x with
  | ofNat a => cases y with
    | ofNat b => rw [dec_of, dec_of]; rfl
    | negSucc b =>
      rw [dec_of, dec_neg, bitNot_neg]
      show Int.ofNat (a - (a &&& b)) = (a : Int) - ((a &&& b : Nat) : Int)
      have : a &&& b ≤ a := Nat.and_le_left
      show ((a - (a &&& b) : Nat) : Int) = _
      omega
  | negSucc a => cases y with
    | ofNat b =>
      rw [dec_of, dec_neg, bitNot_neg]
      show Int.ofNat (b - (b &&& a)) = (b : Int) - ((b &&& a : Nat) : Int)
      have : b &&& a ≤ b := Nat.and_le_left
      show ((b - (b &&& a) : Nat) : Int) = _
      omega
    | negSucc b =>
      rw [dec_neg, dec_neg, bitNot_neg, bitNot_neg]
      show Int.negSucc (a ||| b) = Builtin.bitNot (Int.ofNat (a ||| b))
      rw [bitNot_of]
theorem ior_nat (a b : Nat) : Int.ofNat (a ||| b) = inot (iand (inot (.ofNat a)) (inot (.ofNat b))) := rfl
theorem ior_eq (x y : Int) : ior x y = Builtin.bitOr x y := by
  have e : ior x y = inot (iand (inot x) (inot y)) := by
    cases x <;> cases y <;> rfl
  rw [e]
  unfold Builtin.bitOr
  rw [inot_eq, iand_eq, inot_eq, inot_eq]

theorem sop_add : SndOp oAdd .Add := ⟨fun a b _ h => ⟨a + b, h, fun _ _ _ _ _ _ _ _ q => P.add_int (q _ _), fun _ _ _ _ _ _ _ _ q => P.iadd_int (q _ _)⟩⟩
theorem sop_sub : SndOp oSub .Sub := ⟨fun a b _ h => ⟨a - b, h, fun _ _ _ _ _ _ _ _ q => P.sub_int (q _ _), fun _ _ _ _ _ _ _ _ q => P.isub_int (q _ _)⟩⟩
theorem sop_mul : SndOp oMul .Mult := ⟨fun a b k h => by
  obtain ⟨ha, h⟩ := cnd_true h
  obtain ⟨hb, h⟩ := cnd_true h
  have := inB_abs ha
  have hm : IntMulOk a b := IntMulOk.of_left (intBits_le_64 (by omega) (by omega))
  exact ⟨a * b, h, fun _ _ _ _ _ _ _ _ q => P.mul_int (q _ _) hm, fun _ _ _ _ _ _ _ _ q => P.imul_int (q _ _) hm⟩⟩
theorem sop_div : SndOp oDiv .FloorDiv := ⟨fun a b k h => by
  obtain ⟨m, rfl, h⟩ := asN_true h
  obtain ⟨n, rfl, h⟩ := asN_true (i := b) h
  obtain ⟨hs, h⟩ := cnd_true h
  cases hz : Nat.beq n 0 with
  | true => rw [hz] at h; cases h
  | false =>
    rw [hz] at h
    have hn : n ≠ 0 := Nat.ne_of_beq_eq_false hz
    have hb : (Int.ofNat n) ≠ 0 := by intro e; exact hn (Int.ofNat.inj e)
    have hs' : n < 65536 := by rwa [Nat.blt_eq] at hs
    have e : Int.fdiv (Int.ofNat m) (Int.ofNat n) = Int.ofNat (m / n) := by cases m <;> cases n <;> first | rfl | simp [Int.fdiv]
    have hp : Builtin.divisionGoesByPylong (Int.ofNat m) (Int.ofNat n) = false := PyProof.noPylong_small (by show (Int.natAbs (Int.ofNat n)) < _; show n < _; omega)
    exact ⟨_, h, fun _ _ _ _ _ _ _ _ q => floordiv_int hb (by rw [e]; exact q _ _) (.inl hp), fun _ _ _ _ _ _ _ _ q => ifloordiv_int hb (by rw [e]; exact q _ _) (.inl hp)⟩⟩
theorem sop_mod : SndOp oMod .Mod := ⟨fun a b k h => by
  obtain ⟨m, rfl, h⟩ := asN_true h
  obtain ⟨n, rfl, h⟩ := asN_true (i := b) h
  replace h : (Bool.rec (k (.ofNat (m % n))) false (Nat.beq n 0) : Bool) = true := h
  cases hz : Nat.beq n 0 with
  | true => rw [hz] at h; cases h
  | false =>
    rw [hz] at h
    have hn : n ≠ 0 := Nat.ne_of_beq_eq_false hz
    have hb : (Int.ofNat n) ≠ 0 := by intro e; exact hn (Int.ofNat.inj e)
    have e : Int.fmod (Int.ofNat m) (Int.ofNat n) = Int.ofNat (m % n) := by cases m <;> cases n <;> first | rfl | simp [Int.fmod]
    exact ⟨_, h, fun _ _ _ _ _ _ _ _ q => mod_int' hb (by rw [e]; exact q _ _), fun _ _ _ _ _ _ _ _ q => imod_int hb (by rw [e]; exact q _ _)⟩⟩
theorem sop_shl : SndOp oShl .LShift := ⟨fun a b k h => by
  obtain ⟨m, rfl, h⟩ := asN_true h
  obtain ⟨n, rfl, h⟩ := asN_true (i := b) h
  obtain ⟨hm, h⟩ := cnd_true h
  obtain ⟨hn, h⟩ := cnd_true h
  rw [Nat.blt_eq] at hm hn
  have e : (Int.ofNat m) * 2 ^ (Int.ofNat n).toNat = Int.ofNat (Nat.shiftLeft m n) := by
    show (m : Int) * 2 ^ n = ((m <<< n : Nat) : Int)
    rw [Nat.shiftLeft_eq]
    push_cast
    rfl
  have hb : Builtin.Int.intBits (Int.ofNat m) ≤ 64 := intBits_le_64 (by show _ < (m : Int); omega) (by show (m : Int) < _; omega)
  have h0 : (0 : Int) ≤ Int.ofNat n := Int.natCast_nonneg n
  have hs : (Builtin.Int.intBits (Int.ofNat m) : Int) + Int.ofNat n ≤ 2 ^ 27 := by
    have : (Int.ofNat n) = (n : Int) := rfl
    omega
  exact ⟨_, h, fun _ _ _ _ _ _ _ _ q => lshift_int h0 hs (by rw [e]; exact q _ _), fun _ _ _ _ _ _ _ _ q => ilshift_int h0 hs (by rw [e]; exact q _ _)⟩⟩
theorem sop_shr : SndOp oShr .RShift := ⟨fun a b k h => by
  obtain ⟨m, rfl, h⟩ := asN_true h
  obtain ⟨n, rfl, h⟩ := asN_true (i := b) h
  have e : Int.fdiv (Int.ofNat m) (2 ^ (Int.ofNat n).toNat) = Int.ofNat (Nat.shiftRight m n) := by
    show Int.fdiv (m : Int) (2 ^ n) = ((m >>> n : Nat) : Int)
    rw [Nat.shiftRight_eq_div_pow, Int.fdiv_eq_ediv_of_nonneg _ (by exact_mod_cast Nat.zero_le (2 ^ n))]
    push_cast
    rfl
  have h0 : (0 : Int) ≤ Int.ofNat n := Int.natCast_nonneg n
  exact ⟨_, h, fun _ _ _ _ _ _ _ _ q => rshift_int h0 (by rw [e]; exact q _ _), fun _ _ _ _ _ _ _ _ q => irshift_int h0 (by rw [e]; exact q _ _)⟩⟩
theorem sop_and : SndOp oAnd .BitAnd := ⟨fun a b _ h => ⟨iand a b, h, fun _ _ _ _ _ _ _ _ q => and_int (by rw [← iand_eq]; exact q _ _), fun _ _ _ _ _ _ _ _ q => iand_int (by rw [← iand_eq]; exact q _ _)⟩⟩
theorem sop_or : SndOp oOr .BitOr := ⟨fun a b _ h => ⟨ior a b, h, fun _ _ _ _ _ _ _ _ q => or_int (by rw [← ior_eq]; exact q _ _), fun _ _ _ _ _ _ _ _ q => ior_int (by rw [← ior_eq]; exact q _ _)⟩⟩
theorem sop_xor : SndOp oXor .BitXor := ⟨fun a b _ h => ⟨ior a b - iand a b, h, fun _ _ _ _ _ _ _ _ q => xor_int (by unfold Builtin.bitXor; rw [← ior_eq, ← iand_eq]; exact q _ _), fun _ _ _ _ _ _ _ _ q => ixor_int (by unfold Builtin.bitXor; rw [← ior_eq, ← iand_eq]; exact q _ _)⟩⟩

def SndC (c : CF) (o : CmpOp) : Prop := ∀ a b (prog : Program) (w : World) (A : Around) (E : Value → Shared → Prop) (s : Shared) (t u : Tok) (Q : Value → Shared → Prop), Q (.bool (c a b)) s → wpAny (model prog w) A (compareOp o (.int a t) (.int b u)) Q E s
theorem sc_eq : SndC cEq .Eq := fun a b _ _ _ _ _ _ _ _ q => P.eq_int (by rw [show (a == b) = cEq a b from (beq_eqI a b).symm]; exact q)
theorem sc_ne : SndC cNe .NotEq := fun a b _ _ _ _ _ _ _ _ q => P.ne_int (by rw [show (a != b) = cNe a b by show (!(a == b)) = !eqI a b; rw [beq_eqI]]; exact q)
theorem sc_lt : SndC cLt .Lt := fun a b _ _ _ _ _ _ _ _ q => P.lt_int (by rw [show decide (a < b) = cLt a b from (ltI_eq a b).symm]; exact q)
theorem sc_gt : SndC cGt .Gt := fun a b _ _ _ _ _ _ _ _ q => P.gt_int (by rw [show decide (a > b) = cGt a b from (ltI_eq b a).symm]; exact q)
theorem sc_le : SndC cLe .LtE := fun a b _ _ _ _ _ _ _ _ q => P.le_int (by rw [show decide (a ≤ b) = cLe a b by show _ = !ltI b a; rw [ltI_eq, Bool.eq_iff_iff]; simp]; exact q)
theorem sc_ge : SndC cGe .GtE := fun a b _ _ _ _ _ _ _ _ q => P.ge_int (by rw [show decide (a ≥ b) = cGe a b by show _ = !ltI a b; rw [ltI_eq, Bool.eq_iff_iff]; simp]; exact q)
end Mine

namespace Mine

abbrev ContE (C : Cx) (h₀ : Hx) (L : Addr) (ns : List Str) (ρ : MEnv) (β : List Addr) (s : Shared) (k : K1) (Q : Value → Shared → Prop) : Prop :=
  ∀ v σ' β' V s', k v σ' = true → β <+: β' → EncV β' v V → Mv s s' → St C h₀ L ns ρ σ' β' s' → Q V s'
abbrev ContT (C : Cx) (h₀ : Hx) (L : Addr) (ns : List Str) (ρ : MEnv) (β : List Addr) (s : Shared) (k : Bool → Hp → Bool) (Q : Bool → Shared → Prop) : Prop :=
  ∀ v σ' β' s', k v σ' = true → β <+: β' → Mv s s' → St C h₀ L ns ρ σ' β' s' → Q v s'

structure SndE (C : Cx) (n : Nat) (scope : Scope) (ns : List Str) (e : PySem.Expr) (f : KE) : Prop where
  go : ∀ (A : Around) (env : Env) (h₀ : Hx) (L : Addr), Fm C n A scope env h₀ L → ∀ (ρ : MEnv) (σ : Hp) (β : List Addr) (s : Shared) (k : K1) (Q : Value → Shared → Prop) (E : Value → Shared → Prop),
    f ρ σ k = true → St C h₀ L ns ρ σ β s → ContE C h₀ L ns ρ β s k Q → wpAny (model C.prog C.w) A (eval e env) Q E s
structure SndT (C : Cx) (n : Nat) (scope : Scope) (ns : List Str) (e : PySem.Expr) (f : KT) : Prop where
  go : ∀ (A : Around) (env : Env) (h₀ : Hx) (L : Addr), Fm C n A scope env h₀ L → ∀ (ρ : MEnv) (σ : Hp) (β : List Addr) (s : Shared) (k : Bool → Hp → Bool) (Q : Bool → Shared → Prop) (E : Value → Shared → Prop) (whole : Sem Value), whole = eval e env →
    f ρ σ k = true → St C h₀ L ns ρ σ β s → ContT C h₀ L ns ρ β s k Q → wpAny (model C.prog C.w) A (isTrue e env whole) Q E s

section
variable {C : Cx} {n : Nat} {scope : Scope} {ns : List Str}

theorem List.prefix_rfl' {α : Type} {l : List α} : l <+: l := ⟨[], by simp⟩
theorem pre_trans {α : Type} {a b c : List α} (h : a <+: b) (h' : b <+: c) : a <+: c := by
  obtain ⟨x, rfl⟩ := h; obtain ⟨y, rfl⟩ := h'; exact ⟨x ++ y, by simp⟩

theorem e_int {i : Int} {kd : Nat} {pos : Pos} : SndE C n scope ns (.Constant (.int i) kd pos) (eInt i) :=
  ⟨fun _ _ _ _ _ _ _ _ _ _ _ _ h S q => wpAny_Constant_int (q _ _ _ _ _ h List.prefix_rfl' ⟨_, rfl⟩ (Mv.toks _ _) (S.toks _))⟩
theorem e_bool {b : Bool} {kd : Nat} {pos : Pos} : SndE C n scope ns (.Constant (.bool b) kd pos) (eBool b) :=
  ⟨fun _ _ _ _ _ _ _ _ _ _ _ _ h S q => wpAny_Constant_bool (q _ _ _ _ _ h List.prefix_rfl' rfl (Mv.refl _) S)⟩
theorem e_none {kd : Nat} {pos : Pos} : SndE C n scope ns (.Constant .none kd pos) eNone :=
  ⟨fun _ _ _ _ _ _ _ _ _ _ _ _ h S q => wpAny_Constant_none (q _ _ _ _ _ h List.prefix_rfl' rfl (Mv.refl _) S)⟩

theorem e_loc {i : Nat} {x : Str} {pos : Pos} (hx : ns[i]? = some x) (hl : scope.names.lookup x = some .local) (hd : (x == ("__debug__" : Str)) = false) : SndE C n scope ns (.Name x pos) (eLoc i) :=
  ⟨fun A env h₀ L fm ρ σ β s k Q E h S q => by
    obtain ⟨hv, h⟩ := vOk_true h
    obtain ⟨qual, f, cdv, rfl⟩ := fm.env_eq
    obtain ⟨m, news, F, N, R, l⟩ := S.ex
    rcases l.1 i x hx with hu | ⟨V, hm, he⟩
    · exact absurd hu hv
    · exact ld F hm (q _ _ _ _ _ h List.prefix_rfl' he (Mv.refl _) ⟨m, news, F, N, R, l⟩) fm.kind hl hd⟩

theorem e_glob {i : Int} {x : Str} {pos : Pos} {t : Tok} (hx : nsIn C.K mainGlobals x = some (some (.int i t))) (hl : scope.names.lookup x = some .globalImplicit) (hd : (x == ("__debug__" : Str)) = false) : SndE C n scope ns (.Name x pos) (eInt i) :=
  ⟨fun A env h₀ L fm ρ σ β s k Q E h S q => by
    obtain ⟨qual, f, cdv, rfl⟩ := fm.env_eq
    obtain ⟨m, news, F, N, R, l⟩ := S.ex
    exact name_K F fm.inK (topRead_of fm.top) hx (q _ _ _ _ _ h List.prefix_rfl' ⟨_, rfl⟩ (Mv.refl _) ⟨m, news, F, N, R, l⟩) fm.kind hl hd⟩

theorem e_bin {op : IOp} {o : Operator} {a b : PySem.Expr} {f g : KE} {pos : Pos} (so : SndOp op o) (sa : SndE C n scope ns a f) (sb : SndE C n scope ns b g) : SndE C n scope ns (.BinOp a o b pos) (eBin op f g) :=
  ⟨fun A env h₀ L fm ρ σ β s k Q E h S q => wpAny_BinOp (sa.go A env h₀ L fm ρ σ β s _ _ E h S fun va σ₁ β₁ Va s₁ h₁ p₁ ea m₁ S₁ =>
    sb.go A env h₀ L fm ρ σ₁ β₁ s₁ _ _ E h₁ S₁ fun vb σ₂ β₂ Vb s₂ h₂ p₂ eb m₂ S₂ => by
      obtain ⟨x, rfl, h₂⟩ := asI_true h₂
      obtain ⟨y, rfl, h₂⟩ := asI_true (v := vb) h₂
      obtain ⟨t, rfl⟩ := ea
      obtain ⟨u, rfl⟩ := eb
      obtain ⟨c, hc, ho, _⟩ := so.ex x y _ h₂
      exact ho _ _ _ _ _ _ _ _ fun t' tk => q _ _ _ _ _ hc (pre_trans p₁ p₂) ⟨_, rfl⟩ ((m₁.trans m₂).trans (Mv.toks _ _)) (S₂.toks _))⟩

theorem e_inv {a : PySem.Expr} {f : KE} {pos : Pos} (sa : SndE C n scope ns a f) : SndE C n scope ns (.UnaryOp .Invert a pos) (eInv f) :=
  ⟨fun A env h₀ L fm ρ σ β s k Q E h S q => wpAny_UnaryOp (sa.go A env h₀ L fm ρ σ β s _ _ E h S fun va σ₁ β₁ Va s₁ h₁ p₁ ea m₁ S₁ => by
      obtain ⟨x, rfl, h₁⟩ := asI_true h₁
      obtain ⟨t, rfl⟩ := ea
      exact invert_int (by rw [← inot_eq]; exact q _ _ _ _ _ h₁ p₁ ⟨_, rfl⟩ (m₁.trans (Mv.toks _ _)) (S₁.toks _)))⟩
theorem e_neg {a : PySem.Expr} {f : KE} {pos : Pos} (sa : SndE C n scope ns a f) : SndE C n scope ns (.UnaryOp .USub a pos) (eNeg f) :=
  ⟨fun A env h₀ L fm ρ σ β s k Q E h S q => wpAny_UnaryOp (sa.go A env h₀ L fm ρ σ β s _ _ E h S fun va σ₁ β₁ Va s₁ h₁ p₁ ea m₁ S₁ => by
      obtain ⟨x, rfl, h₁⟩ := asI_true h₁
      obtain ⟨t, rfl⟩ := ea
      exact P.neg_int (q _ _ _ _ _ h₁ p₁ ⟨_, rfl⟩ (m₁.trans (Mv.toks _ _)) (S₁.toks _)))⟩

theorem e_cmp {c : CF} {o : CmpOp} {a b : PySem.Expr} {f g : KE} {pos : Pos} (so : SndC c o) (sa : SndE C n scope ns a f) (sb : SndE C n scope ns b g) (hm : behindInMarks o b = false) : SndE C n scope ns (.Compare a [o] [b] pos) (eCmp c f g) :=
  ⟨fun A env h₀ L fm ρ σ β s k Q E h S q => wpAny_Compare1 (hm := hm) (sa.go A env h₀ L fm ρ σ β s _ _ E h S fun va σ₁ β₁ Va s₁ h₁ p₁ ea m₁ S₁ =>
    sb.go A env h₀ L fm ρ σ₁ β₁ s₁ _ _ E h₁ S₁ fun vb σ₂ β₂ Vb s₂ h₂ p₂ eb m₂ S₂ => by
      obtain ⟨x, rfl, h₂⟩ := asI_true h₂
      obtain ⟨y, rfl, h₂⟩ := asI_true (v := vb) h₂
      obtain ⟨t, rfl⟩ := ea
      obtain ⟨u, rfl⟩ := eb
      exact so _ _ _ _ _ _ _ _ _ _ (q _ _ _ _ _ h₂ (pre_trans p₁ p₂) rfl (m₁.trans m₂) S₂))⟩
theorem t_cmp {c : CF} {o : CmpOp} {a b : PySem.Expr} {f g : KE} {pos : Pos} (so : SndC c o) (sa : SndE C n scope ns a f) (sb : SndE C n scope ns b g) (hm : behindInMarks o b = false) : SndT C n scope ns (.Compare a [o] [b] pos) (tCmp c f g) :=
  ⟨fun A env h₀ L fm ρ σ β s k Q E whole _ h S q => wpAny_isTrue_Compare1 (hm := hm) (sa.go A env h₀ L fm ρ σ β s _ _ E h S fun va σ₁ β₁ Va s₁ h₁ p₁ ea m₁ S₁ =>
    sb.go A env h₀ L fm ρ σ₁ β₁ s₁ _ _ E h₁ S₁ fun vb σ₂ β₂ Vb s₂ h₂ p₂ eb m₂ S₂ => by
      obtain ⟨x, rfl, h₂⟩ := asI_true h₂
      obtain ⟨y, rfl, h₂⟩ := asI_true (v := vb) h₂
      obtain ⟨t, rfl⟩ := ea
      obtain ⟨u, rfl⟩ := eb
      exact so _ _ _ _ _ _ _ _ _ _ (wpAny_truthy_bool (q _ _ _ _ h₂ (pre_trans p₁ p₂) (m₁.trans m₂) S₂)))⟩

theorem truth_of {β : List Addr} {v : MV} {V : Value} {k : Bool → Bool} {prog : Program} {w : World} {A : Around} {E : Value → Shared → Prop} {s : Shared} {Q : Bool → Shared → Prop}
    (h : mtruth v k = true) (e : EncV β v V) (q : ∀ b, k b = true → Q b s) : wpAny (model prog w) A (truthy V) Q E s := by
  rcases mtruth_true h with ⟨i, rfl, hk⟩ | ⟨b, rfl, hk⟩
  · obtain ⟨t, rfl⟩ := e
    exact P.truthy_int (q _ (by rw [beq_eqI] at hk; exact hk))
  · obtain rfl : V = .bool b := e
    exact wpAny_truthy_bool (q _ hk)

theorem t_any {a : PySem.Expr} {f : KE} (sa : SndE C n scope ns a f) (he : ∀ env whole, isTrue a env whole = (do let v ← whole; standAt a.pos; holding [v] (truthy v))) : SndT C n scope ns a (tAny f) :=
  ⟨fun A env h₀ L fm ρ σ β s k Q E whole hw h S q => by
    subst hw
    exact isTrue_plain (sa.go A env h₀ L fm ρ σ β s _ _ E h S fun va σ₁ β₁ Va s₁ h₁ p₁ ea m₁ S₁ => truth_of h₁ ea fun b hb => q _ _ _ _ hb p₁ m₁ S₁) (he _ _)⟩

theorem t_and1 {a : PySem.Expr} {f : KT} {pos : Pos} (sa : SndT C n scope ns a f) : SndT C n scope ns (.BoolOp .And [a] pos) f :=
  ⟨fun A env h₀ L fm ρ σ β s k Q E whole hw h S q => isTrue_and (sa.go A env h₀ L fm ρ σ β s k _ E _ rfl h S fun b σ₁ β₁ s₁ h₁ p₁ m₁ S₁ => by
    cases b with
    | true => exact isTrue_and_nil (q _ _ _ _ h₁ p₁ m₁ S₁)
    | false => exact q _ _ _ _ h₁ p₁ m₁ S₁)⟩
theorem t_and {a : PySem.Expr} {r : List PySem.Expr} {f g : KT} {pos : Pos} (sa : SndT C n scope ns a f) (sb : SndT C n scope ns (.BoolOp .And r pos) g) : SndT C n scope ns (.BoolOp .And (a :: r) pos) (tAnd f g) :=
  ⟨fun A env h₀ L fm ρ σ β s k Q E whole hw h S q => isTrue_and (sa.go A env h₀ L fm ρ σ β s _ _ E _ rfl h S fun b σ₁ β₁ s₁ h₁ p₁ m₁ S₁ => by
    cases b with
    | true =>
      have z := sb.go A env h₀ L fm ρ σ₁ β₁ s₁ k Q E _ rfl h₁ S₁ fun v σ₂ β₂ s₂ h₂ p₂ m₂ S₂ => q _ _ _ _ h₂ (pre_trans p₁ p₂) (m₁.trans m₂) S₂
      rw [arm_isTrue_BoolOp] at z
      show wpAny _ _ (isTrue (.BoolOp _ r pos) env whole) _ _ _
      rw [arm_isTrue_BoolOp]
      exact z
    | false => exact q _ _ _ _ h₁ p₁ m₁ S₁)⟩
theorem t_or1 {a : PySem.Expr} {f : KT} {pos : Pos} (sa : SndT C n scope ns a f) : SndT C n scope ns (.BoolOp .Or [a] pos) f :=
  ⟨fun A env h₀ L fm ρ σ β s k Q E whole hw h S q => isTrue_or (sa.go A env h₀ L fm ρ σ β s k _ E _ rfl h S fun b σ₁ β₁ s₁ h₁ p₁ m₁ S₁ => by
    cases b with
    | false => exact isTrue_or_nil (q _ _ _ _ h₁ p₁ m₁ S₁)
    | true => exact q _ _ _ _ h₁ p₁ m₁ S₁)⟩
theorem t_or {a : PySem.Expr} {r : List PySem.Expr} {f g : KT} {pos : Pos} (sa : SndT C n scope ns a f) (sb : SndT C n scope ns (.BoolOp .Or r pos) g) : SndT C n scope ns (.BoolOp .Or (a :: r) pos) (tOr f g) :=
  ⟨fun A env h₀ L fm ρ σ β s k Q E whole hw h S q => isTrue_or (sa.go A env h₀ L fm ρ σ β s _ _ E _ rfl h S fun b σ₁ β₁ s₁ h₁ p₁ m₁ S₁ => by
    cases b with
    | false =>
      have z := sb.go A env h₀ L fm ρ σ₁ β₁ s₁ k Q E _ rfl h₁ S₁ fun v σ₂ β₂ s₂ h₂ p₂ m₂ S₂ => q _ _ _ _ h₂ (pre_trans p₁ p₂) (m₁.trans m₂) S₂
      rw [arm_isTrue_BoolOp] at z
      show wpAny _ _ (isTrue (.BoolOp _ r pos) env whole) _ _ _
      rw [arm_isTrue_BoolOp]
      exact z
    | true => exact q _ _ _ _ h₁ p₁ m₁ S₁)⟩

theorem e_and1 {a : PySem.Expr} {o : BoolOp} {f : KE} {pos : Pos} (sa : SndE C n scope ns a f) : SndE C n scope ns (.BoolOp o [a] pos) f :=
  ⟨fun A env h₀ L fm ρ σ β s k Q E h S q => BoolOp_one (sa.go A env h₀ L fm ρ σ β s k Q E h S q)⟩
theorem e_and {a b : PySem.Expr} {r : List PySem.Expr} {f g : KE} {pos : Pos} (sa : SndE C n scope ns a f) (sb : SndE C n scope ns (.BoolOp .And (b :: r) pos) g) : SndE C n scope ns (.BoolOp .And (a :: b :: r) pos) (eAnd f g) :=
  ⟨fun A env h₀ L fm ρ σ β s k Q E h S q => BoolOp_and (sa.go A env h₀ L fm ρ σ β s _ _ E h S fun va σ₁ β₁ Va s₁ h₁ p₁ ea m₁ S₁ => truth_of h₁ ea fun t ht => by
    cases t with
    | true => exact sb.go A env h₀ L fm ρ σ₁ β₁ s₁ k Q E ht S₁ fun v σ₂ β₂ V s₂ h₂ p₂ e₂ m₂ S₂ => q _ _ _ _ _ h₂ (pre_trans p₁ p₂) e₂ (m₁.trans m₂) S₂
    | false => exact q _ _ _ _ _ ht p₁ ea m₁ S₁)⟩
theorem e_or {a b : PySem.Expr} {r : List PySem.Expr} {f g : KE} {pos : Pos} (sa : SndE C n scope ns a f) (sb : SndE C n scope ns (.BoolOp .Or (b :: r) pos) g) : SndE C n scope ns (.BoolOp .Or (a :: b :: r) pos) (eOr f g) :=
  ⟨fun A env h₀ L fm ρ σ β s k Q E h S q => BoolOp_or (sa.go A env h₀ L fm ρ σ β s _ _ E h S fun va σ₁ β₁ Va s₁ h₁ p₁ ea m₁ S₁ => truth_of h₁ ea fun t ht => by
    cases t with
    | false => exact sb.go A env h₀ L fm ρ σ₁ β₁ s₁ k Q E ht S₁ fun v σ₂ β₂ V s₂ h₂ p₂ e₂ m₂ S₂ => q _ _ _ _ _ h₂ (pre_trans p₁ p₂) e₂ (m₁.trans m₂) S₂
    | true => exact q _ _ _ _ _ ht p₁ ea m₁ S₁)⟩

theorem e_ite {c a b : PySem.Expr} {t : KT} {f g : KE} {pos : Pos} (sc : SndT C n scope ns c t) (sa : SndE C n scope ns a f) (sb : SndE C n scope ns b g) : SndE C n scope ns (.IfExp c a b pos) (eIte t f g) :=
  ⟨fun A env h₀ L fm ρ σ β s k Q E h S q => wpAny_IfExp (sc.go A env h₀ L fm ρ σ β s _ _ E _ rfl h S fun t σ₁ β₁ s₁ h₁ p₁ m₁ S₁ => by
    cases t with
    | true => exact sa.go A env h₀ L fm ρ σ₁ β₁ s₁ k Q E h₁ S₁ fun v σ₂ β₂ V s₂ h₂ p₂ e₂ m₂ S₂ => q _ _ _ _ _ h₂ (pre_trans p₁ p₂) e₂ (m₁.trans m₂) S₂
    | false => exact sb.go A env h₀ L fm ρ σ₁ β₁ s₁ k Q E h₁ S₁ fun v σ₂ β₂ V s₂ h₂ p₂ e₂ m₂ S₂ => q _ _ _ _ _ h₂ (pre_trans p₁ p₂) e₂ (m₁.trans m₂) S₂)⟩
end
end Mine

namespace Mine

theorem llen_eq {α : Type} (vs : List α) : llen vs = vs.length := by
  induction vs with
  | nil => rfl
  | cons a r ih => show llen r + 1 = _; rw [ih]; rfl
theorem lnth_eq {α : Type} (vs : List α) : ∀ i, lnth vs i = vs[i]? := by
  induction vs with
  | nil => intro i; rfl
  | cons a r ih =>
    intro i
    cases i with
    | zero => rfl
    | succ i => show lnth r i = _; rw [ih]; rfl
theorem ofList_get (vs : List MV) : ∀ (k : Nat) (t : Tr MV) (j : Nat), (ofList vs k t).get j = if k ≤ j ∧ j < k + vs.length then vs[j - k]? else t.get j := by
  induction vs with
  | nil => intro k t j; rw [if_neg (by simp)]; rfl
  | cons a r ih =>
    intro k t j
    show (ofList r (k + 1) (t.set a k)).get j = _
    rw [ih, Tr.get_set]
    simp only [List.length_cons]
    by_cases h1 : j = k
    · subst h1
      rw [if_neg (by omega), if_pos rfl, if_pos (by omega)]
      simp
    · by_cases h2 : k + 1 ≤ j ∧ j < k + 1 + r.length
      · rw [if_pos h2, if_pos (by omega)]
        have : j - k = (j - (k + 1)) + 1 := by omega
        rw [this]; simp
      · rw [if_neg h2, if_neg h1, if_neg (by omega)]
theorem rep_get (x : MV) : ∀ (m j : Nat), (rep x m).get j = if j < m then some x else none := by
  intro m
  induction m with
  | zero => intro j; rfl
  | succ m ih =>
    intro j
    show ((rep x m).set x m).get j = _
    rw [Tr.get_set, ih]
    by_cases h : j = m
    · subst h; simp
    · rw [if_neg h]
      by_cases h2 : j < m
      · rw [if_pos h2, if_pos (by omega)]
      · rw [if_neg h2, if_neg (by omega)]

theorem enc_mkL {C : Cx} {β : List Addr} {vs : List MV} {Vs : List Value} (h : F2 (EncV β) vs Vs) (hl : vs.length ≤ 65536) : EncO C β (mkL vs) { cls := .type "list", data := .seq Vs.toArray } := by
  refine ⟨Vs.toArray, 0, rfl, ?_, ?_, fun i hi => ?_⟩
  · rw [llen_eq, h.length]; simp
  · rw [llen_eq]; exact hl
  · rw [llen_eq] at hi
    obtain ⟨V, hV, he⟩ := h.get (i := i) (a := vs[i]) (by simp [hi])
    refine ⟨vs[i], V, ?_, by simpa using hV, he⟩
    rw [ofList_get, if_pos (by omega)]
    simp [hi]
theorem enc_tup {C : Cx} {β : List Addr} {vs : List MV} {Vs : List Value} (h : F2 (EncV β) vs Vs) : EncO C β (.tup vs) { cls := .type "tuple", data := .seq Vs.toArray } := ⟨Vs.toArray, rfl, by simpa using h⟩

abbrev ContA (C : Cx) (h₀ : Hx) (L : Addr) (ns : List Str) (ρ : MEnv) (β : List Addr) (s : Shared) (k : List MV → Hp → Bool) (Q : List Value → Shared → Prop) : Prop :=
  ∀ vs σ' β' Vs s', k vs σ' = true → β <+: β' → F2 (EncV β') vs Vs → Mv s s' → St C h₀ L ns ρ σ' β' s' → Q Vs s'
structure SndA (C : Cx) (n : Nat) (scope : Scope) (ns : List Str) (es : List PySem.Expr) (fs : List KE) : Prop where
  go : ∀ (A : Around) (env : Env) (h₀ : Hx) (L : Addr), Fm C n A scope env h₀ L → ∀ (ρ : MEnv) (σ : Hp) (β : List Addr) (s : Shared) (k : List MV → Hp → Bool) (Q : List Value → Shared → Prop) (E : Value → Shared → Prop) (pos : Pos),
    evs ρ fs σ k = true → St C h₀ L ns ρ σ β s → ContA C h₀ L ns ρ β s k Q → wpAny (model C.prog C.w) A (spliced (backTo pos (starEach es env))) Q E s
  plain : ∀ env pos, (backTo pos (starEach es env)).any (·.1) = false
  head : es ≠ [] → ∀ env pos, ∃ x rest, backTo pos (starEach es env) = (false, x) :: rest

section
variable {C : Cx} {n : Nat} {scope : Scope} {ns : List Str}

theorem a_nil : SndA C n scope ns [] [] := ⟨fun A env h₀ L fm ρ σ β s k Q E pos h S q => args_nil (q _ _ _ _ _ h List.prefix_rfl' .nil (Mv.refl _) S), fun _ _ => rfl, fun h => absurd rfl h⟩
theorem a_cons {a : PySem.Expr} {r : List PySem.Expr} {f : KE} {fs : List KE} (sa : SndE C n scope ns a f) (he : ∀ env, starEach (a :: r) env = (false, eval a env) :: starEach r env) (sr : SndA C n scope ns r fs) : SndA C n scope ns (a :: r) (f :: fs) where
  go := fun A env h₀ L fm ρ σ β s k Q E pos h S q => args_cons (he := he env) (sa.go A env h₀ L fm ρ σ β s _ _ E h S fun va σ₁ β₁ Va s₁ h₁ p₁ ea m₁ S₁ =>
    sr.go A env h₀ L fm ρ σ₁ β₁ s₁ _ _ E pos h₁ S₁ fun vs σ₂ β₂ Vs s₂ h₂ p₂ es m₂ S₂ => q _ _ _ _ _ h₂ (pre_trans p₁ p₂) (.cons (ea.mono p₂) es) (m₁.trans m₂) S₂)
  plain := fun env pos => by
    rw [he]
    show (false || (backTo pos (starEach r env)).any (·.1)) = false
    rw [sr.plain]; rfl
  head := fun _ env pos => ⟨_, _, by rw [he]; rfl⟩

theorem e_lst {es : List PySem.Expr} {fs : List KE} {pos : Pos} (sa : SndA C n scope ns es fs) : SndE C n scope ns (.List es pos) (eLst fs) :=
  ⟨fun A env h₀ L fm ρ σ β s k Q E h S q => wpAny_List (sa.go A env h₀ L fm ρ σ β s _ _ E _ h S fun vs σ₁ β₁ Vs s₁ h₁ p₁ ea m₁ S₁ => by
    obtain ⟨hl, h₁⟩ := cnd_true h₁
    rw [Nat.blt_eq, llen_eq] at hl
    refine ⟨by rw [← ea.length, sizeLine_eq]; omega, q _ _ _ _ _ h₁ (pre_trans p₁ (List.prefix_append _ _)) ⟨_, ?_, rfl⟩ (m₁.trans (Mv.heap _ _)) (S₁.push (enc_mkL (F2.imp (fun _ _ x => x.mono (List.prefix_append _ _)) ea) (by omega)) rfl)⟩
    obtain ⟨m, news, F, N, R, l⟩ := S₁.ex
    rw [← R.len]; simp)⟩
theorem e_tup {es : List PySem.Expr} {fs : List KE} {kd : Nat} {pos : Pos} (sa : SndA C n scope ns es fs) : SndE C n scope ns (.Tuple es kd pos) (eTup fs) :=
  ⟨fun A env h₀ L fm ρ σ β s k Q E h S q => wpAny_Tuple (sa.go A env h₀ L fm ρ σ β s _ _ E _ h S fun vs σ₁ β₁ Vs s₁ h₁ p₁ ea m₁ S₁ => by
    obtain ⟨hl, h₁⟩ := cnd_true h₁
    rw [Nat.blt_eq, llen_eq] at hl
    refine ⟨by rw [← ea.length, sizeLine_eq]; omega, q _ _ _ _ _ h₁ (pre_trans p₁ (List.prefix_append _ _)) ⟨_, ?_, rfl⟩ (m₁.trans (Mv.heap _ _)) (S₁.push (enc_tup (F2.imp (fun _ _ x => x.mono (List.prefix_append _ _)) ea)) rfl)⟩
    obtain ⟨m, news, F, N, R, l⟩ := S₁.ex
    rw [← R.len]; simp)⟩


theorem asInts_true {vs : List MV} {k : List Int → Bool} {β : List Addr} {Vs : List Value} (e : F2 (EncV β) vs Vs) (h : asInts vs k = true) : ∃ is, IntsAre Vs is ∧ k is = true := by
  induction e generalizing k with
  | nil => exact ⟨[], .nil, h⟩
  | cons a _ ih =>
    obtain ⟨i, rfl, h⟩ := asI_true h
    obtain ⟨t, rfl⟩ := a
    obtain ⟨is, hi, hk⟩ := ih h
    exact ⟨i :: is, .cons _ _ hi, hk⟩
theorem anyEq_eq (x : Int) (is : List Int) : anyEq x is = is.any (· == x) := by
  induction is with
  | nil => rfl
  | cons y r ih =>
    show (Bool.rec (anyEq x r) true (eqI y x) : Bool) = _
    rw [beq_eqI, List.any_cons, ih]
    cases (y == x) <;> rfl
theorem e_in {x : PySem.Expr} {es : List PySem.Expr} {f : KE} {fs : List KE} {kd : Nat} {tpos pos : Pos} (sx : SndE C n scope ns x f) (sa : SndA C n scope ns es fs) : SndE C n scope ns (.Compare x [.In] [.Tuple es kd tpos] pos) (eIn false f fs) :=
  ⟨fun A env h₀ L fm ρ σ β s k Q E h S q => wpAny_Compare1 (hm := rfl) (sx.go A env h₀ L fm ρ σ β s _ _ E h S fun va σ₁ β₁ Va s₁ h₁ p₁ ea m₁ S₁ =>
    wpAny_Tuple (sa.go A env h₀ L fm ρ σ₁ β₁ s₁ _ _ E _ h₁ S₁ fun vs σ₂ β₂ Vs s₂ h₂ p₂ es m₂ S₂ => by
      obtain ⟨hl, h₂⟩ := cnd_true h₂
      rw [Nat.blt_eq, llen_eq] at hl
      obtain ⟨i, rfl, h₂⟩ := asI_true (v := va) h₂
      obtain ⟨t, rfl⟩ := ea
      obtain ⟨is, hi, hk⟩ := asInts_true es h₂
      refine ⟨by rw [← es.length, sizeLine_eq]; omega, in_tuple_ints (items := Vs.toArray) (ns := is) ⟨_, Heap.get?_push_size _ rfl, rfl, _, rfl⟩ (by simpa using hi) ?_⟩
      rw [← anyEq_eq]
      exact q _ _ _ _ _ hk (pre_trans p₁ p₂) rfl ((m₁.trans m₂).trans (Mv.heap _ _)) (S₂.keep (tk := s₂.toks) fun b o e => Heap.get?_push_of_some _ e)))⟩
theorem e_notin {x : PySem.Expr} {es : List PySem.Expr} {f : KE} {fs : List KE} {kd : Nat} {tpos pos : Pos} (sx : SndE C n scope ns x f) (sa : SndA C n scope ns es fs) : SndE C n scope ns (.Compare x [.NotIn] [.Tuple es kd tpos] pos) (eIn true f fs) :=
  ⟨fun A env h₀ L fm ρ σ β s k Q E h S q => wpAny_Compare1 (hm := rfl) (sx.go A env h₀ L fm ρ σ β s _ _ E h S fun va σ₁ β₁ Va s₁ h₁ p₁ ea m₁ S₁ =>
    wpAny_Tuple (sa.go A env h₀ L fm ρ σ₁ β₁ s₁ _ _ E _ h₁ S₁ fun vs σ₂ β₂ Vs s₂ h₂ p₂ es m₂ S₂ => by
      obtain ⟨hl, h₂⟩ := cnd_true h₂
      rw [Nat.blt_eq, llen_eq] at hl
      obtain ⟨i, rfl, h₂⟩ := asI_true (v := va) h₂
      obtain ⟨t, rfl⟩ := ea
      obtain ⟨is, hi, hk⟩ := asInts_true es h₂
      refine ⟨by rw [← es.length, sizeLine_eq]; omega, notin_tuple_ints (items := Vs.toArray) (ns := is) ⟨_, Heap.get?_push_size _ rfl, rfl, _, rfl⟩ (by simpa using hi) ?_⟩
      rw [← anyEq_eq]
      exact q _ _ _ _ _ hk (pre_trans p₁ p₂) rfl ((m₁.trans m₂).trans (Mv.heap _ _)) (S₂.keep (tk := s₂.toks) fun b o e => Heap.get?_push_of_some _ e)))⟩

/-- the ledger's row of an address -/
theorem St.row {h₀ : Hx} {L : Addr} {ρ : MEnv} {σ : Hp} {β : List Addr} {s : Shared} {i : Nat} {x : Addr} (S : St C h₀ L ns ρ σ β s) (hx : β[i]? = some x) {mo : MO} (hm : σ.t.get i = some mo) :
    ∃ m news o, Fr h₀.h L s.heap m ∧ News h₀.h L s.heap (news ++ h₀.X) ∧ Rel C β σ news ∧ (LocRel β ns ρ m ∧ Dj h₀ β) ∧ news[i]? = some (x, o) ∧ EncO C β mo o := by
  obtain ⟨m, news, F, N, R, l⟩ := S.ex
  obtain ⟨o, mo', hn, hm', he⟩ := R.at hx
  rw [hm] at hm'; cases hm'
  exact ⟨m, news, o, F, N, R, l, hn, he⟩

structure CxOk (C : Cx) : Prop where
  hasDict : hasDictIn C.K C.geo = true
  get : ∀ x, plainGet C.K C.geo x = true
  cls : ∀ x ∈ fieldNames, findIn C.K (.ref C.geo) x = some none
  setattr : findIn C.K (.ref C.geo) "__setattr__" = some (some (.builtin "object.__setattr__"))
  over : plainOver C.K C.geo = true
  taker : ∀ x ∈ fieldNames, takerIn C.K C.geo x = some none
  makes : makesIn C.K C.geo = true

theorem handed_enc {β : List Addr} {v : MV} {V : Value} (h : EncV β v V) : handedIn V = true := by
  cases v with
  | int i => obtain ⟨t, rfl⟩ := h; rfl
  | bool b => obtain rfl : V = .bool b := h; rfl
  | none => obtain rfl : V = .none := h; rfl
  | ref a => obtain ⟨x, _, rfl⟩ := h; rfl
  | unb => exact h.elim

theorem e_attr (ok : CxOk C) {a : PySem.Expr} {f : KE} {i : Nat} {attr : Str} {pos : Pos} (sa : SndE C n scope ns a f) (hb : ∀ env, attributeBase a attr env (eval a env) = eval a env) (hx : fieldNames[i]? = some attr) : SndE C n scope ns (.Attribute a attr pos) (eAttr f i) :=
  ⟨fun A env h₀ L fm ρ σ β s k Q E h S q => Attribute_any_ (he := by rw [arm_eval_Attribute, hb]) (sa.go A env h₀ L fm ρ σ β s _ _ E h S fun va σ₁ β₁ Va s₁ h₁ p₁ ea m₁ S₁ => by
    obtain ⟨r, rfl, h₁⟩ := asR_true h₁
    obtain ⟨o, ho, h₁⟩ := look_true (σ := σ₁) h₁
    obtain ⟨d, rfl, h₁⟩ := asIn_true (o := o) h₁
    obtain ⟨o, hd, h₁⟩ := look_true (σ := σ₁) h₁
    obtain ⟨mm, fs, rfl, h₃⟩ := asF_true (o := o) h₁
    obtain ⟨hv, h₃⟩ := vOk_true (v := MEnv.get fs i) h₃
    obtain ⟨x, hx', rfl⟩ := ea
    obtain ⟨m, news, ox, F, N, R, l, hn, he⟩ := S₁.row hx' ho
    obtain ⟨dx, hdx, rfl⟩ := he
    obtain ⟨od, mo', hnd, hmd, hed⟩ := R.at hdx
    rw [hd] at hmd; cases hmd
    obtain ⟨es, nn, rfl, hlen, hfl, href, hf⟩ := hed
    have hfi := hf i attr hx
    have : ∃ V, getL attr es = some (some V) ∧ EncV β₁ (MEnv.get fs i) V := by
      revert hfi hv
      cases MEnv.get fs i <;> intro hv hfi <;> first | exact absurd rfl hv | exact hfi
    obtain ⟨V, hg, hV⟩ := this
    have I : PySem.W.InstAt s₁.heap x (instObj C.geo dx) C.geo (some (dictOf es nn)) := InstAt.of_news N (memL hn) (memL hnd)
    exact get_own F fm.inK I (ok.get attr) ok.hasDict (ok.cls attr (List.mem_of_getElem? hx)) rfl hg (handed_enc hV) (q _ _ _ _ _ h₃ p₁ hV (m₁.trans (Mv.toks _ _)) (S₁.toks _)))⟩

theorem e_subL {a i : PySem.Expr} {f g : KE} {pos : Pos} (sa : SndE C n scope ns a f) (si : SndE C n scope ns i g) (hs : ∀ o j, subscripted i false o j = operate [o, j] (getItem o j)) : SndE C n scope ns (.Subscript a i pos) (eSubL f g) :=
  ⟨fun A env h₀ L fm ρ σ β s k Q E h S q => Subscript_ (sa.go A env h₀ L fm ρ σ β s _ _ E h S fun va σ₁ β₁ Va s₁ h₁ p₁ ea m₁ S₁ =>
    si.go A env h₀ L fm ρ σ₁ β₁ s₁ _ _ E h₁ S₁ fun vb σ₂ β₂ Vb s₂ h₂ p₂ eb m₂ S₂ => by
      obtain ⟨r, rfl, h₂⟩ := asR_true (v := va) h₂
      obtain ⟨j, rfl, h₂⟩ := asI_true (v := vb) h₂
      obtain ⟨o, ho, h₂⟩ := look_true (σ := σ₂) h₂
      obtain ⟨nl, tr, rfl, h₂⟩ := asL_true (o := o) h₂
      obtain ⟨jj, rfl, h₂⟩ := asN_true (i := j) h₂
      obtain ⟨hlt, h₂⟩ := cnd_true h₂
      rw [Nat.blt_eq] at hlt
      obtain ⟨v, hv, h₂⟩ := ko_true h₂
      obtain ⟨x, hx, rfl⟩ := ea
      obtain ⟨t, rfl⟩ := eb
      obtain ⟨ob, hob, he⟩ := S₂.get (getElem?_prefix p₂ hx) ho
      obtain ⟨items, ep, rfl, hsz, hmax, hi⟩ := he
      obtain ⟨v', V, hv', hV, heV⟩ := hi jj hlt
      rw [hv] at hv'; cases hv'
      have hl : s₂.heap.IsList x items := ⟨_, hob, rfl, ep, rfl⟩
      exact tail_any hl.typeIs slot_list_getitem.lookup (wpAny_getItem_list hl (Int.natCast_nonneg jj) (by show (jj : Int) < 2 ^ 63; omega) hV (q _ _ _ _ _ h₂ (pre_trans p₁ p₂) heV (m₁.trans m₂) S₂)) (hs _ _))⟩
end
end Mine

namespace Mine

theorem as1_true {β : List Addr} {vs : List MV} {Vs : List Value} {k : MV → Bool} (e : F2 (EncV β) vs Vs) (h : as1 vs k = true) : ∃ v V, vs = [v] ∧ Vs = [V] ∧ EncV β v V ∧ k v = true := by
  cases e with
  | nil => cases h
  | cons a r => cases r with
    | nil => exact ⟨_, _, rfl, rfl, a, h⟩
    | cons _ _ => cases h
theorem as2_true {β : List Addr} {vs : List MV} {Vs : List Value} {k : MV → MV → Bool} (e : F2 (EncV β) vs Vs) (h : as2 vs k = true) : ∃ v V u U, vs = [v, u] ∧ Vs = [V, U] ∧ EncV β v V ∧ EncV β u U ∧ k v u = true := by
  cases e with
  | nil => cases h
  | cons a r =>
    obtain ⟨u, U, rfl, rfl, e', h'⟩ := as1_true r h
    exact ⟨_, _, _, _, rfl, rfl, a, e', h'⟩
theorem as3_true {β : List Addr} {vs : List MV} {Vs : List Value} {k : MV → MV → MV → Bool} (e : F2 (EncV β) vs Vs) (h : as3 vs k = true) : ∃ v V u U t T, vs = [v, u, t] ∧ Vs = [V, U, T] ∧ EncV β v V ∧ EncV β u U ∧ EncV β t T ∧ k v u t = true := by
  cases e with
  | nil => cases h
  | cons a r =>
    obtain ⟨u, U, t, T, rfl, rfl, e', e'', h'⟩ := as2_true r h
    exact ⟨_, _, _, _, _, _, rfl, rfl, a, e', e'', h'⟩

theorem dget_true {i : Int} {es : List (Int × MV)} {k : MV → Bool} {β : List Addr} {kvs : List (Int × Value)} (e : F2 (fun e kv => kv.1 = e.1 ∧ EncV β e.2 kv.2) es kvs) (h : dget i es k = true) : ∃ v V, valueAt kvs i = some V ∧ EncV β v V ∧ k v = true := by
  induction e with
  | nil => cases h
  | @cons p q r t a _ ih =>
    replace h : (Bool.rec (dget i r k) (k p.2) (eqI p.1 i) : Bool) = true := h
    rw [beq_eqI] at h
    cases hp : (p.1 == i) with
    | true =>
      rw [hp] at h
      have : q.1 = i := a.1.trans (beq_iff_eq.mp hp)
      exact ⟨p.2, q.2, by simp [valueAt, this], a.2, h⟩
    | false =>
      rw [hp] at h
      obtain ⟨v, V, x, y, z⟩ := ih h
      have : ¬ q.1 = i := by rw [a.1]; simpa using hp
      exact ⟨v, V, by simpa [valueAt, this] using x, y, z⟩

theorem dset_stored {i : Int} {v : MV} {V : Value} {es : List (Int × MV)} {β : List Addr} {kvs : List (Int × Value)} (e : F2 (fun e kv => kv.1 = e.1 ∧ EncV β e.2 kv.2) es kvs) (hv : EncV β v V) (hnd : (kvs.map (·.1)).Nodup) :
    F2 (fun e kv => kv.1 = e.1 ∧ EncV β e.2 kv.2) (dset i v es) (stored kvs i V) := by
  induction e with
  | nil => exact .cons ⟨rfl, hv⟩ .nil
  | @cons p q r t a e ih =>
    show F2 _ (Bool.rec (p :: dset i v r) ((i, v) :: r) (eqI p.1 i)) _
    rw [beq_eqI]
    simp only [List.map_cons, List.nodup_cons] at hnd
    cases hp : (p.1 == i) with
    | true =>
      have hq : q.1 = i := a.1.trans (beq_iff_eq.mp hp)
      have ht : t.map (fun kv => if kv.1 = i then (kv.1, V) else kv) = t := by
        rw [show t = t.map id by simp]
        simp only [List.map_map]
        apply List.map_congr_left
        intro kv hkv
        have : kv.1 ≠ i := by
          rintro rfl
          exact hnd.1 (by rw [hq]; exact List.mem_map_of_mem hkv)
        simp [this]
      have : stored (q :: t) i V = (q.1, V) :: t := by
        unfold stored
        rw [if_pos (by simp [hq])]
        rw [List.map_cons, if_pos hq, ht]
      rw [this]
      exact .cons ⟨hq, hv⟩ e
    | false =>
      have hq : ¬ q.1 = i := by rw [a.1]; simpa using hp
      have : stored (q :: t) i V = q :: stored t i V := by
        unfold stored
        by_cases hany : t.any (fun kv => decide (kv.1 = i)) = true
        · rw [if_pos (by simp only [List.any_cons, hany, Bool.or_true]), if_pos hany, List.map_cons, if_neg hq]
        · rw [if_neg (by simp only [List.any_cons, hq, decide_false, Bool.false_or]; exact hany), if_neg hany]; rfl
      rw [this]
      exact .cons a (ih hnd.2)

section
variable {C : Cx} {n : Nat} {scope : Scope} {ns : List Str}

theorem e_subD {a i : PySem.Expr} {f g : KE} {pos : Pos} (sa : SndE C n scope ns a f) (si : SndE C n scope ns i g) (hs : ∀ o j, subscripted i false o j = operate [o, j] (getItem o j)) : SndE C n scope ns (.Subscript a i pos) (eSubD f g) :=
  ⟨fun A env h₀ L fm ρ σ β s k Q E h S q => Subscript_ (sa.go A env h₀ L fm ρ σ β s _ _ E h S fun va σ₁ β₁ Va s₁ h₁ p₁ ea m₁ S₁ =>
    si.go A env h₀ L fm ρ σ₁ β₁ s₁ _ _ E h₁ S₁ fun vb σ₂ β₂ Vb s₂ h₂ p₂ eb m₂ S₂ => by
      obtain ⟨r, rfl, h₂⟩ := asR_true (v := va) h₂
      obtain ⟨j, rfl, h₂⟩ := asI_true (v := vb) h₂
      obtain ⟨o, ho, h₃⟩ := look_true (σ := σ₂) h₂
      obtain ⟨es, rfl, h₅⟩ := asD_true (o := o) h₃
      obtain ⟨x, hx, rfl⟩ := ea
      obtain ⟨t, rfl⟩ := eb
      obtain ⟨ob, hob, he⟩ := S₂.get (getElem?_prefix p₂ hx) ho
      obtain ⟨kvs, hd, hf⟩ := he
      obtain ⟨v, V, hV, heV, h₄⟩ := dget_true hf h₅
      have hD : s₂.heap.DictOf (PySem.intKind C.prog C.w) x kvs := Heap.dictOf_iff.mpr ⟨ob, hob, hd⟩
      exact tail_any hD.typeIs slot_dict_getitem.lookup (wpAny_getItem_of (intKind_is _ _ _ _) hD.mapOf hV (q _ _ _ _ _ h₄ (pre_trans p₁ p₂) heV ((m₁.trans m₂).trans (Mv.toks _ _)) (S₂.toks _))) (hs _ _))⟩

theorem args_go {es : List PySem.Expr} {fs : List KE} (sa : SndA C n scope ns es fs) (hne : es ≠ []) {M : Model} {A : Around} {env : Env} {fv : Value} {pos : Pos} {Q : Args → Shared → Prop} {E : Value → Shared → Prop} {s : Shared}
    (h : wpAny M A (spliced (backTo pos (starEach es env))) (fun vs s' => Q ⟨vs, []⟩ s') E s) : wpAny M A (evalArgs fv true (backTo pos (starEach es env)) []) Q E s := by
  obtain ⟨x, rest, e⟩ := sa.head hne env pos
  rw [e] at h ⊢
  exact evalArgs_plain h

theorem St.inK {h₀ : Hx} {L : Addr} {ρ : MEnv} {σ : Hp} {β : List Addr} {s : Shared} (S : St C h₀ L ns ρ σ β s) (X : C.K.In h₀.h) : C.K.In s.heap := by
  obtain ⟨m, news, F, N, R, l⟩ := S.ex
  exact X.keeps F.keep

/-- a name that the text leaves to the built-ins -/
theorem nameB {A : Around} {env : Env} {h₀ : Hx} {L : Addr} (fm : Fm C n A scope env h₀ L) {ρ : MEnv} {σ : Hp} {β : List Addr} {s : Shared} (S : St C h₀ L ns ρ σ β s) {x : Str} {pos : Pos} {v : Value} {Q : Value → Shared → Prop} {E : Value → Shared → Prop}
    (hx : nsIn C.K mainGlobals x = some none) (hv : bootBuiltins x = some v) (hn : x ≠ "__name__") (hl : scope.names.lookup x = some .globalImplicit) (hd : (x == ("__debug__" : Str)) = false) (h : Q v s) : wpAny (model C.prog C.w) A (eval (.Name x pos) env) Q E s := by
  obtain ⟨qual, f, cdv, rfl⟩ := fm.env_eq
  obtain ⟨m, news, F, N, R, l⟩ := S.ex
  exact name_B F fm.inK (topRead_of fm.top) hx hv hn h fm.kind hl hd
theorem nameG {A : Around} {env : Env} {h₀ : Hx} {L : Addr} (fm : Fm C n A scope env h₀ L) {ρ : MEnv} {σ : Hp} {β : List Addr} {s : Shared} (S : St C h₀ L ns ρ σ β s) {x : Str} {pos : Pos} {v : Value} {Q : Value → Shared → Prop} {E : Value → Shared → Prop}
    (hx : nsIn C.K mainGlobals x = some (some v)) (hl : scope.names.lookup x = some .globalImplicit) (hd : (x == ("__debug__" : Str)) = false) (h : Q v s) : wpAny (model C.prog C.w) A (eval (.Name x pos) env) Q E s := by
  obtain ⟨qual, f, cdv, rfl⟩ := fm.env_eq
  obtain ⟨m, news, F, N, R, l⟩ := S.ex
  exact name_K F fm.inK (topRead_of fm.top) hx h fm.kind hl hd

theorem e_len {a : PySem.Expr} {f : KE} {np pos : Pos} (sa : SndA C n scope ns [a] [f]) (hx : nsIn C.K mainGlobals (Str.ofString "len") = some none) (hl : scope.names.lookup (Str.ofString "len") = some .globalImplicit) : SndE C n scope ns (.Call (.Name (Str.ofString "len") np) [a] [] pos) (eLen f) :=
  ⟨fun A env h₀ L fm ρ σ β s k Q E h S q => wpAny_Call_NameR (nameB fm S hx PySem.boot_len (by decide) hl (by decide) (Calls.callWith_builtin (sa.plain _ _) (args_go sa (by simp)
    (sa.go A env h₀ L fm ρ σ β s _ _ E _ h S fun vs σ₁ β₁ Vs s₁ h₁ p₁ ea m₁ S₁ => by
      obtain ⟨v, V, rfl, rfl, eV, h₁⟩ := as1_true ea h₁
      obtain ⟨r, rfl, h₁⟩ := asR_true (v := v) h₁
      obtain ⟨o, ho, h₂⟩ := look_true (σ := σ₁) h₁
      obtain ⟨nl, tr, rfl, h₂⟩ := asL_true (o := o) h₂
      obtain ⟨x, hx, rfl⟩ := eV
      obtain ⟨ob, hob, items, ep, rfl, hsz, hmax, hi⟩ := S₁.get hx ho
      have hl : s₁.heap.IsList x items := ⟨_, hob, rfl, ep, rfl⟩
      refine Calls.call_len_list hl (by omega) ?_
      rw [hsz]
      exact q _ _ _ _ _ h₂ p₁ ⟨_, rfl⟩ (m₁.trans (Mv.toks _ _)) (S₁.toks _)))))⟩

theorem e_toInt {a : PySem.Expr} {f : KE} {np pos : Pos} (sa : SndA C n scope ns [a] [f]) (hx : nsIn C.K mainGlobals (Str.ofString "int") = some none) (hl : scope.names.lookup (Str.ofString "int") = some .globalImplicit) : SndE C n scope ns (.Call (.Name (Str.ofString "int") np) [a] [] pos) (eToInt f) :=
  ⟨fun A env h₀ L fm ρ σ β s k Q E h S q => wpAny_Call_NameR (nameB fm S hx boot_int (by decide) hl (by decide) (PySem.callWith_type (sa.plain _ _) (args_go sa (by simp)
    (sa.go A env h₀ L fm ρ σ β s _ _ E _ h S fun vs σ₁ β₁ Vs s₁ h₁ p₁ ea m₁ S₁ => by
      obtain ⟨v, V, rfl, rfl, eV, h₁⟩ := as1_true ea h₁
      obtain ⟨b, rfl, h₁⟩ := asB_true (v := v) h₁
      obtain rfl : V = .bool b := eV
      refine call_int_bool ?_
      have e : (if b = true then (1 : Int) else 0) = Bool.rec (.ofNat 0) (.ofNat 1) b := by cases b <;> rfl
      rw [e]
      exact q _ _ _ _ _ h₁ p₁ ⟨_, rfl⟩ (m₁.trans (Mv.toks _ _)) (S₁.toks _)))))⟩

theorem refAt {h₀ : Hx} {L : Addr} {ρ : MEnv} {σ : Hp} {β : List Addr} {s : Shared} (S : St C h₀ L ns ρ σ β s) (x : Addr) : EncV (β ++ [x]) (.ref σ.n) (.ref x) := by
  obtain ⟨m, news, F, N, R, l⟩ := S.ex
  exact ⟨x, by rw [← R.len]; simp, rfl⟩

theorem small_up {a b : Int} (ha : -65536 ≤ a ∧ a < 65536) (hb : -65536 ≤ b ∧ b < 65536) : Builtin.Range.small a b 1 = true := small_one (by omega) (by omega) (by omega) (by omega)
theorem rangeSize_down (a b : Int) : Builtin.Range.rangeSize a b (-1) = if b < a then a - b else 0 := by
  unfold Builtin.Range.rangeSize
  simp only [show ¬ ((-1 : Int) > 0) by decide, if_false, show (- (-1 : Int)) = 1 by decide, Int.ediv_one]
  by_cases h : b < a
  · rw [if_pos h, if_pos h]; omega
  · rw [if_neg h, if_neg h]
theorem enc_rng {β : List Addr} {lo hi st : Int} {t u v : Tok} (h : Builtin.Range.small lo hi st = true) : EncO C β (.range lo hi st) { cls := .type "range", dict := none, data := .fields #[.int lo t, .int hi u, .int st v], slots := #[] } := ⟨t, u, v, rfl, h⟩
theorem small_down {a b : Int} (ha : -65536 ≤ a ∧ a < 65536) (hb : -65536 ≤ b ∧ b < 65536) : Builtin.Range.small a b (-1) = true := by
  unfold Builtin.Range.small
  rw [rangeSize_down]
  simp only [Builtin.Range.rangeFitsLong, Bool.and_eq_true, Bool.or_eq_true, decide_eq_true_eq, beq_iff_eq, show ¬ ((-1 : Int) > 0) by decide, if_false]
  split <;> omega
theorem e_rng1 {a : PySem.Expr} {f : KE} {np pos : Pos} (sa : SndA C n scope ns [a] [f]) (hx : nsIn C.K mainGlobals (Str.ofString "range") = some none) (hl : scope.names.lookup (Str.ofString "range") = some .globalImplicit) : SndE C n scope ns (.Call (.Name (Str.ofString "range") np) [a] [] pos) (eRng1 f) :=
  ⟨fun A env h₀ L fm ρ σ β s k Q E h S q => wpAny_Call_NameR (nameB fm S hx boot_range (by decide) hl (by decide) (PySem.callWith_type (sa.plain _ _) (args_go sa (by simp)
    (sa.go A env h₀ L fm ρ σ β s _ _ E _ h S fun vs σ₁ β₁ Vs s₁ h₁ p₁ ea m₁ S₁ => by
      obtain ⟨v, V, rfl, rfl, eV, h₁⟩ := as1_true ea h₁
      obtain ⟨b, rfl, h₁⟩ := asI_true (v := v) h₁
      obtain ⟨hb, h₁⟩ := cnd_true h₁
      obtain ⟨t, rfl⟩ := eV
      have hs := small_up (a := 0) (by omega) (inB_abs hb)
      exact call_range_1 (q _ _ _ _ _ h₁ (pre_trans p₁ (List.prefix_append _ _)) (refAt S₁ _) (m₁.trans (Mv.to _ _ _)) (S₁.push (enc_rng hs) rfl))))))⟩
theorem e_rng2 {a b : PySem.Expr} {f g : KE} {np pos : Pos} (sa : SndA C n scope ns [a, b] [f, g]) (hx : nsIn C.K mainGlobals (Str.ofString "range") = some none) (hl : scope.names.lookup (Str.ofString "range") = some .globalImplicit) : SndE C n scope ns (.Call (.Name (Str.ofString "range") np) [a, b] [] pos) (eRng2 f g) :=
  ⟨fun A env h₀ L fm ρ σ β s k Q E h S q => wpAny_Call_NameR (nameB fm S hx boot_range (by decide) hl (by decide) (PySem.callWith_type (sa.plain _ _) (args_go sa (by simp)
    (sa.go A env h₀ L fm ρ σ β s _ _ E _ h S fun vs σ₁ β₁ Vs s₁ h₁ p₁ ea m₁ S₁ => by
      obtain ⟨v, V, u, U, rfl, rfl, eV, eU, h₁⟩ := as2_true ea h₁
      obtain ⟨a, rfl, h₁⟩ := asI_true (v := v) h₁
      obtain ⟨b, rfl, h₁⟩ := asI_true (v := u) h₁
      obtain ⟨ha, h₁⟩ := cnd_true h₁
      obtain ⟨hb, h₁⟩ := cnd_true h₁
      obtain ⟨t, rfl⟩ := eV
      obtain ⟨t', rfl⟩ := eU
      exact call_range_2 (q _ _ _ _ _ h₁ (pre_trans p₁ (List.prefix_append _ _)) (refAt S₁ _) (m₁.trans (Mv.to _ _ _)) (S₁.push (enc_rng (small_up (inB_abs ha) (inB_abs hb))) rfl))))))⟩
theorem e_rng3 {a b c : PySem.Expr} {f g i : KE} {np pos : Pos} (sa : SndA C n scope ns [a, b, c] [f, g, i]) (hx : nsIn C.K mainGlobals (Str.ofString "range") = some none) (hl : scope.names.lookup (Str.ofString "range") = some .globalImplicit) : SndE C n scope ns (.Call (.Name (Str.ofString "range") np) [a, b, c] [] pos) (eRng3 f g i) :=
  ⟨fun A env h₀ L fm ρ σ β s k Q E h S q => wpAny_Call_NameR (nameB fm S hx boot_range (by decide) hl (by decide) (PySem.callWith_type (sa.plain _ _) (args_go sa (by simp)
    (sa.go A env h₀ L fm ρ σ β s _ _ E _ h S fun vs σ₁ β₁ Vs s₁ h₁ p₁ ea m₁ S₁ => by
      obtain ⟨v, V, u, U, x, X, rfl, rfl, eV, eU, eX, h₁⟩ := as3_true ea h₁
      obtain ⟨a, rfl, h₁⟩ := asI_true (v := v) h₁
      obtain ⟨b, rfl, h₁⟩ := asI_true (v := u) h₁
      obtain ⟨c, rfl, h₁⟩ := asI_true (v := x) h₁
      obtain ⟨ha, h₁⟩ := cnd_true h₁
      obtain ⟨hb, h₁⟩ := cnd_true h₁
      obtain ⟨hc, h₁⟩ := cnd_true h₁
      rw [beq_eqI, beq_iff_eq] at hc
      subst hc
      obtain ⟨t, rfl⟩ := eV
      obtain ⟨t', rfl⟩ := eU
      obtain ⟨t'', rfl⟩ := eX
      exact call_range_3 (by decide) (q _ _ _ _ _ h₁ (pre_trans p₁ (List.prefix_append _ _)) (refAt S₁ _) (m₁.trans (Mv.to _ _ _)) (S₁.push (enc_rng (small_down (inB_abs ha) (inB_abs hb))) rfl)) (.inl (PyProof.noPylong_small (by decide)))))))⟩
end
end Mine

namespace Mine

theorem ints_snoc {vs : List Value} {is : List Int} (h : IntsAre vs is) (i : Int) (t : Tok) : IntsAre (vs ++ [.int i t]) (is ++ [i]) := by
  induction h with
  | nil => exact .cons _ _ .nil
  | cons _ _ _ ih => exact .cons _ _ ih
theorem ints_get {vs : List Value} {is : List Int} (h : IntsAre vs is) : ∀ {i : Nat} {x : Int}, is[i]? = some x → ∃ t, vs[i]? = some (.int x t) := by
  induction h with
  | nil => intro i x e; simp at e
  | cons m t _ ih =>
    intro i x e
    cases i with
    | zero => simp at e; subst e; exact ⟨t, rfl⟩
    | succ i => simp at e; simpa using ih e
theorem ints_len {vs : List Value} {is : List Int} (h : IntsAre vs is) : vs.length = is.length := by
  induction h with
  | nil => rfl
  | cons _ _ _ ih => simp [ih]
theorem allI_ints {β : List Addr} {t : Tr MV} {items : Array Value} : ∀ (n : Nat), n ≤ items.size → allI n t = true → (∀ i, i < n → ∃ v V, t.get i = some v ∧ items[i]? = some V ∧ EncV β v V) → ∃ is, IntsAre (items.toList.take n) is ∧ is.length = n := by
  intro n
  induction n with
  | zero => intro _ _ _; exact ⟨[], by simpa using IntsAre.nil, rfl⟩
  | succ n ih =>
    intro hsz h hi
    replace h : ko (t.get n) (fun v => asI v fun _ => allI n t) = true := h
    obtain ⟨v, hv, h⟩ := ko_true h
    obtain ⟨i, rfl, h⟩ := asI_true h
    obtain ⟨is, a, b⟩ := ih (by omega) h fun j hj => hi j (by omega)
    obtain ⟨v', V, hv', hV, he⟩ := hi n (by omega)
    rw [hv] at hv'; cases hv'
    obtain ⟨tk, rfl⟩ := he
    refine ⟨is ++ [i], ?_, by simp [b]⟩
    rw [List.take_add_one]
    have : items.toList[n]? = some (.int i tk) := by simpa using hV
    rw [this]
    exact ints_snoc a i tk

theorem foldl_rep (V : Value) : ∀ (m : Nat) (acc : Array Value), List.foldl (fun x1 x2 => x1 ++ x2) acc (List.replicate m #[V]) = acc ++ Array.replicate m V := by
  intro m
  induction m with
  | zero => intro acc; simp
  | succ m ih =>
    intro acc
    rw [List.replicate_succ, List.foldl_cons, ih]
    apply Array.toList_inj.mp
    simp [List.replicate_succ]

section
variable {C : Cx} {n : Nat} {scope : Scope} {ns : List Str}

theorem e_gsub {x : Str} {i : PySem.Expr} {g : KE} {vs : List Int} {np pos : Pos} {a : Addr} {items : List Value} (hx : nsIn C.K mainGlobals x = some (some (.ref a))) (hK : C.K.lookup a = some { cls := .type "tuple", data := .seq items.toArray }) (hi : IntsAre items vs)
    (hl : scope.names.lookup x = some .globalImplicit) (hd : (x == ("__debug__" : Str)) = false) (si : SndE C n scope ns i g) (hs : ∀ o j, subscripted i false o j = operate [o, j] (getItem o j)) (hlen : items.length ≤ 1000) : SndE C n scope ns (.Subscript (.Name x np) i pos) (eGsub vs g) :=
  ⟨fun A env h₀ L fm ρ σ β s k Q E h S q => Subscript_ (nameG fm S hx hl hd (si.go A env h₀ L fm ρ σ β s _ _ E h S fun vb σ₁ β₁ Vb s₁ h₁ p₁ eb m₁ S₁ => by
      obtain ⟨j, rfl, h₁⟩ := asI_true (v := vb) h₁
      obtain ⟨jj, rfl, h₁⟩ := asN_true (i := j) h₁
      obtain ⟨y, hy, h₂⟩ := ko_true (x := lnth vs jj) h₁
      obtain ⟨t, rfl⟩ := eb
      rw [lnth_eq] at hy
      obtain ⟨tk, hV⟩ := ints_get hi hy
      have hlt : jj < items.length := (List.getElem?_eq_some_iff.mp hV).1
      have ht : IsTup s₁.heap a items.toArray := ⟨_, S₁.inK fm.inK _ _ hK, rfl, _, rfl⟩
      refine item_tupleT (j := jj) ht (by show -(2 ^ 63) ≤ (jj : Int); omega) (by show (jj : Int) < 2 ^ 63; omega) ?_ hV (q _ _ _ _ _ h₂ p₁ ⟨_, rfl⟩ m₁ S₁) (hs _ _)
      unfold seqIndex?
      have h0 : ¬ ((jj : Int) < 0) := by omega
      show (let j := if (jj : Int) < 0 then (jj : Int) + items.length else jj; if 0 ≤ j && j < items.length then some j.toNat else none) = some jj
      simp only [if_neg h0]
      rw [if_pos (by simp [hlt])]
      simp))⟩

theorem e_eqnil {a b : PySem.Expr} {f g : KE} {pos : Pos} (sa : SndE C n scope ns a f) (sb : SndE C n scope ns b g) (hm : behindInMarks .Eq b = false) : SndE C n scope ns (.Compare a [.Eq] [b] pos) (eEqNil f g) :=
  ⟨fun A env h₀ L fm ρ σ β s k Q E h S q => wpAny_Compare1 (hm := hm) (sa.go A env h₀ L fm ρ σ β s _ _ E h S fun va σ₁ β₁ Va s₁ h₁ p₁ ea m₁ S₁ =>
    sb.go A env h₀ L fm ρ σ₁ β₁ s₁ _ _ E h₁ S₁ fun vb σ₂ β₂ Vb s₂ h₂ p₂ eb m₂ S₂ => by
      obtain ⟨x, rfl, h₂⟩ := asR_true (v := va) h₂
      obtain ⟨y, rfl, h₂⟩ := asR_true (v := vb) h₂
      obtain ⟨o, ho, h₃⟩ := look_true (σ := σ₂) h₂
      obtain ⟨n1, t1, rfl, h₄⟩ := asL_true (o := o) h₃
      obtain ⟨o', ho', h₅⟩ := look_true (σ := σ₂) h₄
      obtain ⟨n2, t2, rfl, h₆⟩ := asL_true (o := o') h₅
      obtain ⟨hall, h₆⟩ := cnd_true h₆
      obtain ⟨hz, h₆⟩ := cnd_true h₆
      have hz : n2 = 0 := Nat.eq_of_beq_eq_true hz
      subst hz
      obtain ⟨x', hx, rfl⟩ := ea
      obtain ⟨y', hy, rfl⟩ := eb
      obtain ⟨ob, hob, items, ep, rfl, hsz, hmax, hi⟩ := S₂.get (getElem?_prefix p₂ hx) ho
      obtain ⟨ob', hob', items', ep', rfl, hsz', hmax', hi'⟩ := S₂.get hy ho'
      obtain ⟨is, his, hil⟩ := allI_ints n1 (by omega) hall hi
      rw [List.take_of_length_le (by simp [hsz])] at his
      have e0 : items' = #[] := by apply Array.eq_empty_of_size_eq_zero hsz'
      subst e0
      have hl : s₂.heap.IsList x' items.toList.toArray := ⟨_, hob, rfl, ep, by simp⟩
      have hl' : s₂.heap.IsList y' ([] : List Value).toArray := ⟨_, hob', rfl, ep', rfl⟩
      refine ke_eq_ints hl hl' his .nil (by have := fm.units; have : cLine = 9900 := rfl; omega) ?_
      have e : decide (is = []) = Nat.beq n1 0 := by
        rw [Bool.eq_iff_iff]
        simp
        rw [← hil]
        simp
      rw [e]
      exact q _ _ _ _ _ h₆ (pre_trans p₁ p₂) rfl (m₁.trans m₂) S₂)⟩

theorem St.made {h₀ : Hx} {h' : Heap} {L : Addr} {ρ : MEnv} {σ : Hp} {β : List Addr} {s : Shared} {m : Str → Option Value} {news : List (Addr × Obj)} {o : Obj} {mo : MO} (N : News h₀.h L s.heap (news ++ h₀.X)) (R : Rel C β σ news) (l : LocRel β ns ρ m ∧ Dj h₀ β)
    (F' : Fr h₀.h L h' m) (N' : News h₀.h L h' ((s.heap.objs.size, o) :: (news ++ h₀.X))) (he : EncO C (β ++ [s.heap.objs.size]) mo o) {tk : Nat} :
    St C h₀ L ns ρ ⟨σ.n + 1, σ.t.set mo σ.n⟩ (β ++ [s.heap.objs.size]) { s with heap := h', toks := tk } :=
  ⟨m, news ++ [(s.heap.objs.size, o)], F', news_snoc N', R.push (not_in_addrs N R) he, l.1.mono (List.prefix_append _ _), l.2.push (not_size N)⟩

theorem e_rep {a b : PySem.Expr} {f g : KE} {pos : Pos} (sa : SndE C n scope ns a f) (sb : SndE C n scope ns b g) : SndE C n scope ns (.BinOp a .Mult b pos) (eRep f g) :=
  ⟨fun A env h₀ L fm ρ σ β s k Q E h S q => wpAny_BinOp (sa.go A env h₀ L fm ρ σ β s _ _ E h S fun va σ₁ β₁ Va s₁ h₁ p₁ ea m₁ S₁ =>
    sb.go A env h₀ L fm ρ σ₁ β₁ s₁ _ _ E h₁ S₁ fun vb σ₂ β₂ Vb s₂ h₂ p₂ eb m₂ S₂ => by
      obtain ⟨x, rfl, h₂⟩ := asR_true (v := va) h₂
      obtain ⟨y, rfl, h₂⟩ := asI_true (v := vb) h₂
      obtain ⟨mm, rfl, h₂⟩ := asN_true (i := y) h₂
      obtain ⟨hm, h₂⟩ := cnd_true h₂
      rw [Nat.blt_eq] at hm
      obtain ⟨o, ho, h₃⟩ := look_true (σ := σ₂) h₂
      obtain ⟨n1, t1, rfl, h₄⟩ := asL_true (o := o) h₃
      obtain ⟨h1, h₄⟩ := cnd_true h₄
      have h1 : n1 = 1 := Nat.eq_of_beq_eq_true h1
      subst h1
      obtain ⟨v, hv, h₅⟩ := ko_true h₄
      obtain ⟨x', hx, rfl⟩ := ea
      obtain ⟨tk, rfl⟩ := eb
      obtain ⟨m, news, ob, F, N, R, l, hn, items, ep, rfl, hsz, hmax, hi⟩ := S₂.row (getElem?_prefix p₂ hx) ho
      obtain ⟨v', V, hv', hV, heV⟩ := hi 0 (by omega)
      rw [hv] at hv'; cases hv'
      have ei : items = #[V] := by
        apply Array.ext
        · simpa using hsz
        · intro i h1 h2
          have : i = 0 := by simp at h2; omega
          subst this
          simpa [hsz] using hV
      subst ei
      refine mul_list F N (N _ (memL hn)).1 (by show -(2 ^ 63) ≤ (mm : Int); omega) (by show (mm : Int) < 2 ^ 63; omega) (by show 1 * mm ≤ _; omega) fun h' F' N' => ?_
      refine q _ _ _ _ _ h₅ (pre_trans (pre_trans p₁ p₂) (List.prefix_append _ _)) (refAt S₂ _) ((m₁.trans m₂).trans (Mv.heap _ _)) (St.made (tk := s₂.toks) N R l F' N' ?_)
      refine ⟨_, _, rfl, ?_, by omega, fun i hi => ?_⟩
      · rw [if_neg (by simp)]
        show (List.foldl _ #[] (List.replicate mm #[V])).size = mm
        rw [foldl_rep]; simp
      · refine ⟨v, V, by rw [rep_get, if_pos hi], ?_, heV.mono (List.prefix_append _ _)⟩
        rw [if_neg (by simp)]
        show (List.foldl _ #[] (List.replicate mm #[V]))[i]? = some V
        rw [foldl_rep]
        simp [hi])⟩

theorem e_app {o x : PySem.Expr} {f g : KE} {apos pos : Pos} (sa : SndE C n scope ns o f) (sx : SndE C n scope ns x g) (hb : ∀ env, attributeBase o (Str.ofString "append") env (eval o env) = eval o env) (he : ∀ env, starEach [x] env = [(false, eval x env)]) (hl : (apos.endLine == pos.line) = true) :
    SndE C n scope ns (.Call (.Attribute o (Str.ofString "append") apos) [x] [] pos) (eApp f g) :=
  ⟨fun A env h₀ L fm ρ σ β s k Q E h S q => wpAny_Call_append (hb env) (by rw [he]; rfl) hl (by rw [he]; rfl) (sa.go A env h₀ L fm ρ σ β s _ _ E h S fun va σ₁ β₁ Va s₁ h₁ p₁ ea m₁ S₁ => by
      obtain ⟨r, rfl, h₁⟩ := asR_true (v := va) h₁
      obtain ⟨ob, ho, h₂⟩ := look_true (σ := σ₁) h₁
      obtain ⟨n1, t1, rfl, h₃⟩ := asL_true (o := ob) h₂
      obtain ⟨x', hx, rfl⟩ := ea
      obtain ⟨ob1, hob1, items, ep, rfl, hsz, hmax, hi⟩ := S₁.get hx ho
      refine ⟨x', items, rfl, ⟨_, _, hob1, rfl, rfl, rfl⟩, sx.go A env h₀ L fm ρ σ₁ β₁ s₁ _ _ E h₃ S₁ fun vb σ₂ β₂ Vb s₂ h₄ p₂ eb m₂ S₂ => ?_⟩
      obtain ⟨ob2, ho2, h₅⟩ := look_true (σ := σ₂) h₄
      obtain ⟨n2, t2, rfl, h₆⟩ := asL_true (o := ob2) h₅
      obtain ⟨hlt, h₆⟩ := cnd_true h₆
      rw [Nat.blt_eq] at hlt
      obtain ⟨ob3, hob3, items2, ep2, rfl, hsz2, hmax2, hi2⟩ := S₂.get (getElem?_prefix p₂ hx) ho2
      refine wpAny_list_append_plain (items := items2) ⟨ep2, hob3⟩ (fun h' hp hs => ?_) (by rw [sizeLine_eq]; omega)
      refine q _ _ _ _ _ h₆ (pre_trans p₁ p₂) rfl ((m₁.trans m₂).trans (Mv.heap _ _)) (S₂.put (tk := s₂.toks) (getElem?_prefix p₂ hx) hs ?_)
      obtain ⟨ep3, hg⟩ := hp
      refine ⟨_, hg, _, _, rfl, by simp [hsz2], by omega, fun i hi => ?_⟩
      rw [Tr.get_set]
      by_cases e : i = n2
      · subst e
        refine ⟨vb, Vb, by simp, ?_, eb⟩
        rw [← hsz2]; simp
      · obtain ⟨v, V, a, b, c⟩ := hi2 i (by omega)
        refine ⟨v, V, by rw [if_neg e]; exact a, ?_, c⟩
        rw [Array.getElem?_push]
        rw [if_neg (by omega)]
        exact b)⟩

theorem e_dict1 {a b : PySem.Expr} {f g : KE} {pos : Pos} (sa : SndE C n scope ns a f) (sb : SndE C n scope ns b g) : SndE C n scope ns (.Dict [some a] [b] pos) (eDict1 f g) :=
  ⟨fun A env h₀ L fm ρ σ β s k Q E h S q => by
    refine wpAny_Dict_pairs (knd := PySem.intKind C.prog C.w) (pairs := [(eval a env, do let x ← eval b env; standAt pos; pure x)]) rfl (by simp) (by simp) ?_
    have S0 : St C h₀ L ns ρ ⟨σ.n + 1, σ.t.set (.dict []) σ.n⟩ (β ++ [s.heap.objs.size]) { s with heap := s.heap.push { cls := .type "dict", data := .dict #[] } } :=
      S.push (tk := s.toks) (mo := .dict []) ⟨[], ⟨#[], 0, ⟨rfl, rfl, rfl⟩, rfl, by intro e he; simp at he, .nil, by simp⟩, .nil⟩ rfl
    refine evalPairs_cons (sa.go A env h₀ L fm ρ _ _ _ _ _ E h S0 fun va σ₁ β₁ Va s₁ h₁ p₁ ea m₁ S₁ => wpAny_bind (sb.go A env h₀ L fm ρ σ₁ β₁ s₁ _ _ E h₁ S₁ fun vb σ₂ β₂ Vb s₂ h₂ p₂ eb m₂ S₂ => wpAny_bind (wpAny_standAt (wpAny_pure (evalPairs_nil ?_)))))
    obtain ⟨i, rfl, h₂⟩ := asI_true (v := va) h₂
    obtain ⟨tk, rfl⟩ := ea
    replace h₂ : look σ₂ σ.n (fun o => asD o fun es => asNil es (k (.ref σ.n) (put σ.n (.dict [(i, vb)]) σ₂))) = true := h₂
    obtain ⟨o, ho, h₃⟩ := look_true (σ := σ₂) h₂
    obtain ⟨es, rfl, h₄⟩ := asD_true (o := o) h₃
    cases es with
    | cons _ _ => cases h₄
    | nil =>
      replace h₄ : k (.ref σ.n) (put σ.n (.dict [(i, vb)]) σ₂) = true := h₄
      obtain ⟨x, hx, hr⟩ := refAt S s.heap.objs.size
      cases hr
      have hx2 := getElem?_prefix (pre_trans p₁ p₂) hx
      obtain ⟨ob, hob, kvs, hd, hf⟩ := S₂.get hx2 ho
      cases hf
      have hD : s₂.heap.DictOf (PySem.intKind C.prog C.w) s.heap.objs.size [] := Heap.dictOf_iff.mpr ⟨ob, hob, hd⟩
      refine ⟨[(i, Vb)], ⟨intKind_is _ _ _ _, rfl, trivial⟩, hD, fun h' hd' hs => ?_⟩
      obtain ⟨ob', hob', hd''⟩ := Heap.dictOf_iff.mp hd'
      have e : merged ([] : List (Int × Value)) [(i, Vb)] = [(i, Vb)] := rfl
      rw [e] at hd''
      exact q _ _ _ _ _ h₄ (pre_trans (List.prefix_append _ _) (pre_trans p₁ p₂)) ⟨_, hx2, rfl⟩ (((Mv.heap _ _).trans (m₁.trans m₂)).trans (Mv.to _ _ _)) (S₂.put hx2 hs ⟨ob', hob', _, hd'', .cons ⟨rfl, eb⟩ .nil⟩)⟩
end
end Mine

namespace Mine

abbrev ContN (C : Cx) (h₀ : Hx) (L : Addr) (ns : List Str) (β : List Addr) (s : Shared) (f : Flow) (kn : MEnv → Hp → Bool) (Q : Flow → Shared → Prop) : Prop :=
  ∀ ρ' σ' β' s', kn ρ' σ' = true → β <+: β' → Mv s s' → St C h₀ L ns ρ' σ' β' s' → Q f s'
abbrev ContR (C : Cx) (h₀ : Hx) (L : Addr) (ns : List Str) (β : List Addr) (s : Shared) (kr : K1) (Q : Flow → Shared → Prop) : Prop :=
  ∀ v ρ' σ' β' V s', kr v σ' = true → β <+: β' → EncV β' v V → Mv s s' → St C h₀ L ns ρ' σ' β' s' → Q (.ret V) s'
abbrev GoS (C : Cx) (n : Nat) (scope : Scope) (ns : List Str) (t : Env → Sem Flow) (f : KS) : Prop :=
  ∀ (A : Around) (env : Env) (h₀ : Hx) (L : Addr), Fm C n A scope env h₀ L → ∀ (ρ : MEnv) (σ : Hp) (β : List Addr) (s : Shared) (kn kc : MEnv → Hp → Bool) (kr : K1) (Q : Flow → Shared → Prop) (E : Value → Shared → Prop),
    f ρ σ kn kc kr = true → St C h₀ L ns ρ σ β s → ContN C h₀ L ns β s .next kn Q → ContN C h₀ L ns β s .cont kc Q → ContR C h₀ L ns β s kr Q → wpAny (model C.prog C.w) A (t env) Q E s
structure SndS (C : Cx) (n : Nat) (scope : Scope) (ns : List Str) (st : PySem.Stmt) (f : KS) : Prop where
  go : GoS C n scope ns (exec st) f
structure SndB (C : Cx) (n : Nat) (scope : Scope) (ns : List Str) (ss : List PySem.Stmt) (f : KS) : Prop where
  go : GoS C n scope ns (execs ss) f

theorem enc_int {β : List Addr} {c : Int} {t : Tok} : EncV β (.int c) (.int c t) := ⟨t, rfl⟩
section
variable {C : Cx} {n : Nat} {scope : Scope} {ns : List Str}

theorem ContN.from {h₀ : Hx} {L : Addr} {β β₁ : List Addr} {s s₁ : Shared} {f : Flow} {kn : MEnv → Hp → Bool} {Q : Flow → Shared → Prop} (q : ContN C h₀ L ns β s f kn Q) (p : β <+: β₁) (m : Mv s s₁) : ContN C h₀ L ns β₁ s₁ f kn Q :=
  fun _ _ _ _ h p' m' S => q _ _ _ _ h (pre_trans p p') (m.trans m') S
theorem ContR.from {h₀ : Hx} {L : Addr} {β β₁ : List Addr} {s s₁ : Shared} {kr : K1} {Q : Flow → Shared → Prop} (q : ContR C h₀ L ns β s kr Q) (p : β <+: β₁) (m : Mv s s₁) : ContR C h₀ L ns β₁ s₁ kr Q :=
  fun _ _ _ _ _ _ h p' e m' S => q _ _ _ _ _ _ h (pre_trans p p') e (m.trans m') S

theorem b_nil : SndB C n scope ns [] sNil := ⟨fun A env h₀ L fm ρ σ β s kn kc kr Q E h S qn qc qr => wpAny_execs_nil (qn _ _ _ _ h List.prefix_rfl' (Mv.refl _) S)⟩
theorem b_cons {st : PySem.Stmt} {rest : List PySem.Stmt} {f g : KS} (a : SndS C n scope ns st f) (b : SndB C n scope ns rest g) : SndB C n scope ns (st :: rest) (sSeq f g) :=
  ⟨fun A env h₀ L fm ρ σ β s kn kc kr Q E h S qn qc qr => wpAny_execs_cons (a.go A env h₀ L fm ρ σ β s _ _ _ _ E h S
    (fun ρ₁ σ₁ β₁ s₁ h₁ p₁ m₁ S₁ => b.go A env h₀ L fm ρ₁ σ₁ β₁ s₁ kn kc kr Q E h₁ S₁ (qn.from p₁ m₁) (qc.from p₁ m₁) (qr.from p₁ m₁))
    (fun ρ₁ σ₁ β₁ s₁ h₁ p₁ m₁ S₁ => qc _ _ _ _ h₁ p₁ m₁ S₁)
    (fun v ρ₁ σ₁ β₁ V s₁ h₁ p₁ e m₁ S₁ => qr _ _ _ _ _ _ h₁ p₁ e m₁ S₁))⟩

theorem St.sub {h₀ : Hx} {L : Addr} {ρ : MEnv} {σ : Hp} {β : List Addr} {s : Shared} (S : St C h₀ L ns ρ σ β s) (tk : Nat) : St C h₀ L ns ρ σ β { s with toks := tk } := ⟨S.ex⟩

theorem s_expr {e : PySem.Expr} {f : KE} {pos : Pos} (se : SndE C n scope ns e f) (hs : ∀ line env, swapsWith e none line env = pure false) : SndS C n scope ns (.Expr e pos) (sExpr f) :=
  ⟨fun A env h₀ L fm ρ σ β s kn kc kr Q E h S qn qc qr => wpAny_Expr (hi := by obtain ⟨_, _, _, rfl⟩ := fm.env_eq; unfold interactive; show (scope.kind == .module && _) = false; rw [fm.kind]; rfl) (hs := hs _ _) (se.go A env h₀ L fm ρ σ β s _ _ E h S fun v σ₁ β₁ V s₁ h₁ p₁ e₁ m₁ S₁ => by
    obtain ⟨hr, h₁⟩ := notRef_true h₁
    have := qn _ _ _ _ h₁ p₁ m₁ S₁
    cases v with
    | ref a => exact absurd rfl (hr a)
    | int i => obtain ⟨t, rfl⟩ := e₁; exact this
    | bool b => obtain rfl : V = .bool b := e₁; exact this
    | none => obtain rfl : V = .none := e₁; exact this
    | unb => exact e₁.elim)⟩

/-- a name of the frame stored -/
theorem store {A : Around} {env : Env} {h₀ : Hx} {L : Addr} (fm : Fm C n A scope env h₀ L) (hnd : ns.Nodup) {ρ : MEnv} {σ : Hp} {β : List Addr} {s : Shared} (S : St C h₀ L ns ρ σ β s) {i : Nat} {x : Str} (hx : ns[i]? = some x) (hl : scope.names.lookup x = some .local)
    {v : MV} {V : Value} (hv : EncV β v V) {Q : Unit → Shared → Prop} {E : Value → Shared → Prop} (q : ∀ s', Mv s s' → St C h₀ L ns (ρ.set v i) σ β s' → Q () s') : wpAny (model C.prog C.w) A (storeName env x V) Q E s := by
  obtain ⟨qual, f, cdv, rfl⟩ := fm.env_eq
  obtain ⟨m, news, F, N, R, l⟩ := S.ex
  exact stN F N (fun h' F' N' => q _ (Mv.to _ _ _) ⟨_, _, F', N', R, l.1.set hnd hx hv, l.2⟩) fm.kind hl

theorem s_asg {i : Nat} {x : Str} {e : PySem.Expr} {f : KE} {np pos : Pos} (hnd : ns.Nodup) (hx : ns[i]? = some x) (hl : scope.names.lookup x = some .local) (se : SndE C n scope ns e f) (hs : ∀ line env, swapsWith e (some (.Name x np)) line env = pure false) : SndS C n scope ns (.Assign [.Name x np] e pos) (sAsg i f) :=
  ⟨fun A env h₀ L fm ρ σ β s kn kc kr Q E h S qn qc qr => wpAny_Assign_Name (hs := hs _ _) (se.go A env h₀ L fm ρ σ β s _ _ E h S fun v σ₁ β₁ V s₁ h₁ p₁ e₁ m₁ S₁ =>
    store fm hnd S₁ hx hl e₁ fun s' m' S' => qn _ _ _ _ h₁ p₁ (m₁.trans m') S')⟩

theorem s_aug {i : Nat} {x : Str} {op : IOp} {o : Operator} {e : PySem.Expr} {f : KE} {np pos : Pos} (hnd : ns.Nodup) (hx : ns[i]? = some x) (hl : scope.names.lookup x = some .local) (so : SndOp op o) (se : SndE C n scope ns e f) : SndS C n scope ns (.AugAssign (.Name x np) o e pos) (sAug i op f) :=
  ⟨fun A env h₀ L fm ρ σ β s kn kc kr Q E h S qn qc qr => by
    obtain ⟨a, ha, h⟩ := asI_true h
    refine wpAny_AugAssign_Name ?_
    obtain ⟨qual, fa, cdv, rfl⟩ := fm.env_eq
    obtain ⟨m, news, F, N, R, l⟩ := S.ex
    rcases l.1 i x hx with hu | ⟨V, hm, he⟩
    · rw [ha] at hu; cases hu
    rw [ha] at he
    obtain ⟨t, rfl⟩ := he
    refine ldn F hm (se.go A _ h₀ L fm ρ σ β s _ _ E h ⟨m, news, F, N, R, l⟩ fun v σ₁ β₁ V s₁ h₁ p₁ e₁ m₁ S₁ => ?_) fm.kind hl
    obtain ⟨b, rfl, h₁⟩ := asI_true (v := v) h₁
    obtain ⟨u, rfl⟩ := e₁
    obtain ⟨c, hc, _, hop⟩ := so.ex a b _ h₁
    exact hop _ _ _ _ _ _ _ _ fun t' tk => store fm hnd (S₁.toks tk) hx hl enc_int fun s' m' S' => qn _ _ _ _ hc p₁ (m₁.trans ((Mv.toks _ _).trans m')) S'⟩

theorem s_ret {e : PySem.Expr} {f : KE} {pos : Pos} (se : SndE C n scope ns e f) : SndS C n scope ns (.Return (some e) pos) (sRet f) :=
  ⟨fun A env h₀ L fm ρ σ β s kn kc kr Q E h S qn qc qr => wpAny_Return_some (se.go A env h₀ L fm ρ σ β s _ _ E h S fun v σ₁ β₁ V s₁ h₁ p₁ e₁ m₁ S₁ => qr _ _ _ _ _ _ h₁ p₁ e₁ m₁ S₁)⟩
theorem s_cont {pos : Pos} : SndS C n scope ns (.Continue pos) sCont :=
  ⟨fun A env h₀ L fm ρ σ β s kn kc kr Q E h S qn qc qr => wpAny_Continue (qc _ _ _ _ h List.prefix_rfl' (Mv.refl _) S)⟩
theorem s_bad {st : PySem.Stmt} : SndS C n scope ns st sBad := ⟨fun A env h₀ L fm ρ σ β s kn kc kr Q E h S qn qc qr => by cases h⟩

theorem s_if {c : PySem.Expr} {a b : List PySem.Stmt} {t : KT} {f g : KS} {pos : Pos} (sc : SndT C n scope ns c t) (sa : SndB C n scope ns a f) (sb : SndB C n scope ns b g) : SndS C n scope ns (.If c a b pos) (sIf t f g) :=
  ⟨fun A env h₀ L fm ρ σ β s kn kc kr Q E h S qn qc qr => wpAny_If (sc.go A env h₀ L fm ρ σ β s _ _ E _ rfl h S fun t σ₁ β₁ s₁ h₁ p₁ m₁ S₁ => by
    cases t with
    | true => exact sa.go A env h₀ L fm ρ σ₁ β₁ s₁ kn kc kr Q E h₁ S₁ (qn.from p₁ m₁) (qc.from p₁ m₁) (qr.from p₁ m₁)
    | false => exact sb.go A env h₀ L fm ρ σ₁ β₁ s₁ kn kc kr Q E h₁ S₁ (qn.from p₁ m₁) (qc.from p₁ m₁) (qr.from p₁ m₁))⟩

theorem getL_put_same (x : Str) (hsh : Int) (key v : Value) (hk : key.isStr x = true) : ∀ es : List DictEntry, getL x (putL x hsh key v es) = some (some v)
  | [] => by simp [putL, getL, hk]
  | e :: r => by
    unfold putL
    by_cases h : e.key.isStr x = true
    · rw [if_pos h]; simp [getL, h]
    · rw [if_neg h]
      have ih := getL_put_same x hsh key v hk r
      unfold getL at ih ⊢
      simp only [List.find?_cons, h]
      revert ih
      cases hf : List.find? (fun e => e.key.isStr x) (putL x hsh key v r) with
      | some e' => intro ih; exact ih
      | none => intro ih; simp only at ih; split at ih <;> simp at ih
theorem isStr_ne {k : Value} {x y : Str} (h : k.isStr x = true) (hne : y ≠ x) : k.isStr y = false := by
  cases k <;> simp [Value.isStr] at h ⊢
  subst h
  exact fun e => hne e.symm
theorem refKey_put (x : Str) (hsh : Int) (v : Value) (t : Tok) : ∀ es : List DictEntry, (∀ e ∈ es, e.refKey = false) → ∀ e ∈ putL x hsh (.str x t) v es, e.refKey = false
  | [], _ => by intro e he; simp [putL] at he; subst he; rfl
  | e :: r, h => by
    intro e' he'
    unfold putL at he'
    split at he'
    · rcases List.mem_cons.mp he' with rfl | h'
      · have := h e (.head _); simpa [DictEntry.refKey] using this
      · exact h _ (.tail _ h')
    · rcases List.mem_cons.mp he' with rfl | h'
      · exact h _ (.head _)
      · exact refKey_put x hsh v t r (fun e he => h e (.tail _ he)) _ h'
theorem getL_none {x : Str} {es : List DictEntry} (hr : ∀ e ∈ es, e.refKey = false) : getL x es = some ((es.find? (·.key.isStr x)).map (·.val)) := by
  unfold getL
  cases hf : es.find? (·.key.isStr x) with
  | some e => rfl
  | none =>
    have : es.any (·.refKey) = false := by
      rw [List.any_eq_false]
      intro e he; rw [hr e he]; simp
    simp [this]
theorem find_put_other {x y : Str} (hne : y ≠ x) (hsh : Int) (v : Value) (t : Tok) : ∀ es : List DictEntry, ((putL x hsh (.str x t) v es).find? (·.key.isStr y)).map (·.val) = (es.find? (·.key.isStr y)).map (·.val)
  | [] => by
    have : Value.isStr (.str x t) y = false := isStr_ne (x := x) (by simp [Value.isStr]) hne
    simp [putL, this]
  | e :: r => by
    unfold putL
    by_cases h : e.key.isStr x = true
    · rw [if_pos h]
      have := isStr_ne h hne
      simp [List.find?_cons, this]
    · rw [if_neg h]
      simp only [List.find?_cons]
      cases e.key.isStr y with
      | true => rfl
      | false => exact find_put_other hne hsh v t r
theorem put_length (x : Str) (hsh : Int) (key v : Value) : ∀ es : List DictEntry, (putL x hsh key v es).length ≤ es.length + 1
  | [] => by simp [putL]
  | e :: r => by
    unfold putL
    split
    · simp
    · have := put_length x hsh key v r; simp; omega
theorem set_length (ρ : MEnv) (v : MV) : ∀ i, (MEnv.set ρ v i).length = ρ.length := by
  induction ρ with
  | nil => intro i; rfl
  | cons a r ih => intro i; cases i with
    | zero => rfl
    | succ i => rw [set_succ, List.length_cons, ih]; rfl

theorem upd_set {x : Addr} {o o' : Obj} : ∀ {news : List (Addr × Obj)} {i : Nat}, (news.map (·.1)).Nodup → news[i]? = some (x, o) → Upd x o o' news (news.set i (x, o'))
  | [], i, _, h => by simp at h
  | p :: r, 0, hnd, h => by
    simp at h; subst h
    simp only [List.map_cons, List.nodup_cons] at hnd
    exact .head fun q hq e => hnd.1 (by rw [← e]; exact List.mem_map_of_mem hq)
  | p :: r, i + 1, hnd, h => by
    simp only [List.getElem?_cons_succ] at h
    simp only [List.map_cons, List.nodup_cons] at hnd
    refine .tail (fun e => hnd.1 ?_) (upd_set hnd.2 h)
    rw [e]
    exact List.mem_map_of_mem (f := (·.1)) (List.mem_of_getElem? h)

theorem upd_app {x : Addr} {o o' : Obj} {X l l' : List (Addr × Obj)} (hX : ∀ p ∈ X, p.1 ≠ x) (U : Upd x o o' l l') : Upd x o o' (l ++ X) (l' ++ X) := by
  induction U with
  | head h => exact .head fun p hp => (List.mem_append.mp hp).elim (h p) (hX p)
  | tail h _ ih => exact .tail h ih
theorem upd_set2 {x : Addr} {o o' : Obj} {X news : List (Addr × Obj)} {i : Nat} (hnd : (news.map (·.1)).Nodup) (h : news[i]? = some (x, o)) (hX : ∀ p ∈ X, p.1 ≠ x) : Upd x o o' (news ++ X) (news.set i (x, o') ++ X) := upd_app hX (upd_set hnd h)
theorem fldOk_of {β : List Addr} {es : List DictEntry} {x : Str} {v : MV} {V : Value} (h : getL x es = some (some V)) (e : EncV β v V) : FldOk β es x v := by
  cases v <;> first | exact ⟨V, h, e⟩ | exact e.elim
theorem fldOk_congr {β : List Addr} {es es' : List DictEntry} {x : Str} {v : MV} (h : getL x es' = getL x es) (e : FldOk β es x v) : FldOk β es' x v := by
  cases v <;> (unfold FldOk at e ⊢; rw [h]; exact e)

theorem fieldNames_nodup : fieldNames.Nodup := by decide +kernel
theorem s_attr (ok : CxOk C) {o e : PySem.Expr} {f g : KE} {i : Nat} {attr : Str} {apos pos : Pos} (so : SndE C n scope ns o f) (se : SndE C n scope ns e g) (hx : fieldNames[i]? = some attr) (hs : ∀ line env, swapsWith e (some (.Attribute o attr apos)) line env = pure false) :
    SndS C n scope ns (.Assign [.Attribute o attr apos] e pos) (sAttr f i g) :=
  ⟨fun A env h₀ L fm ρ σ β s kn kc kr Q E h S qn qc qr => plainObj_wpAny_Assign_Attribute (hs := hs _ _) (se.go A env h₀ L fm ρ σ β s _ _ E h S fun vb σ₁ β₁ Vb s₁ h₁ p₁ eb m₁ S₁ =>
    so.go A env h₀ L fm ρ σ₁ β₁ s₁ _ _ E h₁ S₁ fun va σ₂ β₂ Va s₂ h₂ p₂ ea m₂ S₂ => by
      obtain ⟨r, rfl, h₂⟩ := asR_true (v := va) h₂
      obtain ⟨ob, ho, h₃⟩ := look_true (σ := σ₂) h₂
      obtain ⟨d, rfl, h₄⟩ := asIn_true (o := ob) h₃
      obtain ⟨ob, hd, h₅⟩ := look_true (σ := σ₂) h₄
      obtain ⟨mm, fs, rfl, h₆⟩ := asF_true (o := ob) h₅
      obtain ⟨hmm, h₆⟩ := cnd_true h₆
      rw [Nat.blt_eq] at hmm
      obtain ⟨x, hx', rfl⟩ := ea
      obtain ⟨m, news, ox, F, N, R, l, hn, dx, hdx, rfl⟩ := S₂.row hx' ho
      obtain ⟨od, mo', hnd, hmd, hed⟩ := R.at hdx
      rw [hd] at hmd; cases hmd
      obtain ⟨es, nn, rfl, hlen, hfl, href, hf⟩ := hed
      have I : PySem.W.InstAt s₂.heap x (instObj C.geo dx) C.geo (some (dictOf es nn)) := InstAt.of_news N (memL hn) (memL hnd)
      have hmem := List.mem_of_getElem? hx
      have hnd' : (news.map (·.1)).Nodup := by rw [R.addrs]; exact R.nodup
      have hil : i < 14 := (List.getElem?_eq_some_iff.mp hx).1
      refine set_dict F fm.inK N I rfl ok.setattr ok.over (ok.taker attr hmem) ok.hasDict (by rw [getL_none href]; rfl) rfl (upd_set2 hnd' hnd (fun p hp e => l.2 p hp (by rw [e]; exact List.mem_of_getElem? hdx))) (by have := put_length attr (PyData.keyHash C.w.params attr) (.str attr (s₂.toks + 1)) Vb es; omega) fun h' F' N' => ?_
      refine qn _ _ _ _ h₆ (pre_trans p₁ p₂) ((m₁.trans m₂).trans (Mv.to _ _ _)) ⟨m, _, F', N', R.put hnd ?_, l⟩
      refine ⟨_, _, rfl, ?_, by rw [set_length]; exact hfl, refKey_put _ _ _ _ _ href, fun j y hy => ?_⟩
      · have := put_length attr (PyData.keyHash C.w.params attr) (.str attr (s₂.toks + 1)) Vb es; omega
      · rw [get_set]
        by_cases e : j = i
        · subst e
          rw [hx] at hy; cases hy
          rw [if_pos rfl, if_pos (by omega)]
          exact fldOk_of (getL_put_same _ _ _ _ (by simp [Value.isStr]) es) (eb.mono p₂)
        · rw [if_neg e]
          have hne : y ≠ attr := by
            rintro rfl
            obtain ⟨ha, ea⟩ := List.getElem?_eq_some_iff.mp hx
            obtain ⟨hb, eb⟩ := List.getElem?_eq_some_iff.mp hy
            exact e ((List.getElem_inj (h₀ := hb) (h₁ := ha) fieldNames_nodup).mp (eb.trans ea.symm))
          refine fldOk_congr ?_ (hf j y hy)
          rw [getL_none href, getL_none (refKey_put _ _ _ _ _ href), find_put_other hne])⟩
end
end Mine

namespace Mine

section
variable {C : Cx} {n : Nat} {scope : Scope} {ns : List Str} {h₀ : Hx} {L : Addr} {ρ : MEnv} {σ : Hp} {β : List Addr} {s : Shared}

theorem set_enc {β : List Addr} {items : Array Value} {nl : Nat} {t : Tr MV} (hi : ∀ i, i < nl → ∃ v V, t.get i = some v ∧ items[i]? = some V ∧ EncV β v V) (hsz : items.size = nl) {j : Nat} (hj : j < nl) {v : MV} {V : Value} (e : EncV β v V) :
    ∀ i, i < nl → ∃ v' V', (t.set v j).get i = some v' ∧ (items.setIfInBounds j V)[i]? = some V' ∧ EncV β v' V' := by
  intro i h
  rw [Tr.get_set]
  by_cases q : i = j
  · subst q
    exact ⟨v, V, if_pos rfl, by simp [Array.getElem?_setIfInBounds, hsz, hj], e⟩
  · obtain ⟨v', V', a, b, c⟩ := hi i h
    exact ⟨v', V', by rw [if_neg q]; exact a, by rw [Array.getElem?_setIfInBounds, if_neg (fun z => q z.symm)]; exact b, c⟩

/-- a list's place stored -/
theorem setL_go {A : Around} {r : Nat} {j : Int} {v : MV} {k : Hp → Bool} (h : setL σ r j v k = true) (S : St C h₀ L ns ρ σ β s) {x : Addr} (hx : β[r]? = some x) {V : Value} (e : EncV β v V) {tk : Tok} {Q : Unit → Shared → Prop} {E : Value → Shared → Prop}
    (q : ∀ σ' s', k σ' = true → Mv s s' → St C h₀ L ns ρ σ' β s' → Q () s') : wpAny (model C.prog C.w) A (setItem (.ref x) (.int j tk) V) Q E s := by
  obtain ⟨ob, ho, h₃⟩ := look_true (σ := σ) h
  obtain ⟨nl, t, rfl, h₄⟩ := asL_true (o := ob) h₃
  obtain ⟨jj, rfl, h₅⟩ := asN_true (i := j) h₄
  obtain ⟨hlt, h₆⟩ := cnd_true h₅
  rw [Nat.blt_eq] at hlt
  obtain ⟨ob, hob, items, ep, rfl, hsz, hmax, hi⟩ := S.get hx ho
  refine ki_setAt hob (Int.natCast_nonneg jj) (by show (jj : Int) < 2 ^ 63; omega) (by show (jj : Int) < items.size; omega) (q _ _ h₆ (Mv.heap _ _) (S.put (tk := s.toks) hx (Heap.SameBut.update ..) ⟨_, PySem.IsL.update hob _, _, _, rfl, ?_, hmax, ?_⟩))
  · show (items.setIfInBounds jj V).size = nl
    simp [hsz]
  · exact set_enc hi hsz hlt e

theorem s_subL {o i e : PySem.Expr} {f g u : KE} {spos pos : Pos} (so : SndE C n scope ns o f) (si : SndE C n scope ns i g) (se : SndE C n scope ns e u) (hs : ∀ line env, swapsWith e (some (.Subscript o i spos)) line env = pure false) : SndS C n scope ns (.Assign [.Subscript o i spos] e pos) (sSubL f g u) :=
  ⟨fun A env h₀ L fm ρ σ β s kn kc kr Q E h S qn qc qr => wpAny_Assign_Subscript (hs := hs _ _) (se.go A env h₀ L fm ρ σ β s _ _ E h S fun v σ₁ β₁ V s₁ h₁ p₁ e₁ m₁ S₁ =>
    so.go A env h₀ L fm ρ σ₁ β₁ s₁ _ _ E h₁ S₁ fun va σ₂ β₂ Va s₂ h₂ p₂ e₂ m₂ S₂ =>
    si.go A env h₀ L fm ρ σ₂ β₂ s₂ _ _ E h₂ S₂ fun vb σ₃ β₃ Vb s₃ h₃ p₃ e₃ m₃ S₃ => by
      obtain ⟨r, rfl, h₃⟩ := asR_true (v := va) h₃
      obtain ⟨j, rfl, h₃⟩ := asI_true (v := vb) h₃
      obtain ⟨x, hx, rfl⟩ := e₂
      obtain ⟨t, rfl⟩ := e₃
      exact setL_go h₃ S₃ (getElem?_prefix p₃ hx) (e₁.mono (pre_trans p₂ p₃)) fun σ' s' h' m' S' => qn _ _ _ _ h' (pre_trans (pre_trans p₁ p₂) p₃) (((m₁.trans m₂).trans m₃).trans m') S')⟩

theorem F2.len' {α γ : Type} {R : α → γ → Prop} {l : List α} {l' : List γ} (h : F2 R l l') : l'.length = l.length := h.length.symm
theorem s_subD {o i e : PySem.Expr} {f g u : KE} {spos pos : Pos} (so : SndE C n scope ns o f) (si : SndE C n scope ns i g) (se : SndE C n scope ns e u) (hs : ∀ line env, swapsWith e (some (.Subscript o i spos)) line env = pure false) : SndS C n scope ns (.Assign [.Subscript o i spos] e pos) (sSubD f g u) :=
  ⟨fun A env h₀ L fm ρ σ β s kn kc kr Q E h S qn qc qr => wpAny_Assign_Subscript (hs := hs _ _) (se.go A env h₀ L fm ρ σ β s _ _ E h S fun v σ₁ β₁ V s₁ h₁ p₁ e₁ m₁ S₁ =>
    so.go A env h₀ L fm ρ σ₁ β₁ s₁ _ _ E h₁ S₁ fun va σ₂ β₂ Va s₂ h₂ p₂ e₂ m₂ S₂ =>
    si.go A env h₀ L fm ρ σ₂ β₂ s₂ _ _ E h₂ S₂ fun vb σ₃ β₃ Vb s₃ h₃ p₃ e₃ m₃ S₃ => by
      obtain ⟨r, rfl, h₃⟩ := asR_true (v := va) h₃
      obtain ⟨j, rfl, h₃⟩ := asI_true (v := vb) h₃
      obtain ⟨ob, ho, h₄⟩ := look_true (σ := σ₃) h₃
      obtain ⟨es, rfl, h₅⟩ := asD_true (o := ob) h₄
      obtain ⟨hl, h₆⟩ := cnd_true h₅
      rw [Nat.blt_eq, llen_eq] at hl
      obtain ⟨x, hx, rfl⟩ := e₂
      obtain ⟨t, rfl⟩ := e₃
      have hx3 := getElem?_prefix p₃ hx
      obtain ⟨ob, hob, kvs, hd, hf⟩ := S₃.get hx3 ho
      have hD : s₃.heap.DictOf (PySem.intKind C.prog C.w) x kvs := Heap.dictOf_iff.mpr ⟨ob, hob, hd⟩
      have hnd : (kvs.map (·.1)).Nodup := by obtain ⟨_, _, _, _, _, _, q⟩ := hd; exact q
      refine wpAny_setItem_pairs (intKind_is _ _ _ _) hD (fun h' hd' hs' => ?_) (by rw [hf.len', sizeLine_eq]; omega)
      obtain ⟨ob', hob', hd''⟩ := Heap.dictOf_iff.mp hd'
      exact qn _ _ _ _ h₆ (pre_trans (pre_trans p₁ p₂) p₃) (((m₁.trans m₂).trans m₃).trans (Mv.to _ _ _)) (S₃.put hx3 hs' ⟨ob', hob', _, hd'', dset_stored hf (e₁.mono (pre_trans p₂ p₃)) hnd⟩))⟩

theorem itemL_go {A : Around} {r : Nat} {j : Int} {k : MV → Bool} (h : itemL σ r j k = true) (S : St C h₀ L ns ρ σ β s) {x : Addr} (hx : β[r]? = some x) {tk : Tok} {Q : Value → Shared → Prop} {E : Value → Shared → Prop}
    (q : ∀ v V, k v = true → EncV β v V → Q V s) : wpAny (model C.prog C.w) A (getItem (.ref x) (.int j tk)) Q E s := by
  obtain ⟨ob, ho, h₃⟩ := look_true (σ := σ) h
  obtain ⟨nl, t, rfl, h₄⟩ := asL_true (o := ob) h₃
  obtain ⟨jj, rfl, h₅⟩ := asN_true (i := j) h₄
  obtain ⟨hlt, h₆⟩ := cnd_true h₅
  rw [Nat.blt_eq] at hlt
  obtain ⟨v, hv, h₇⟩ := ko_true h₆
  obtain ⟨ob, hob, items, ep, rfl, hsz, hmax, hi⟩ := S.get hx ho
  obtain ⟨v', V, hv', hV, heV⟩ := hi jj hlt
  rw [hv] at hv'; cases hv'
  exact wpAny_getItem_list (items := items) ⟨_, hob, rfl, ep, rfl⟩ (Int.natCast_nonneg jj) (by show (jj : Int) < 2 ^ 63; omega) hV (q _ _ h₇ heV)

theorem s_augSub {o i e : PySem.Expr} {f g u : KE} {op : IOp} {op' : Operator} {spos pos : Pos} (so : SndE C n scope ns o f) (si : SndE C n scope ns i g) (sp : SndOp op op') (se : SndE C n scope ns e u) (ha : ∀ ov iv new, augStore i ov iv new = (do holding [new, ov, iv] (setItem ov iv new); release [new, ov, iv] []; pure .next)) :
    SndS C n scope ns (.AugAssign (.Subscript o i spos) op' e pos) (sAugSub f g op u) :=
  ⟨fun A env h₀ L fm ρ σ β s kn kc kr Q E h S qn qc qr => wpAny_AugAssign_SubscriptAny (hi := ha) (
    so.go A env h₀ L fm ρ σ β s _ _ E h S fun va σ₁ β₁ Va s₁ h₁ p₁ e₁ m₁ S₁ =>
    si.go A env h₀ L fm ρ σ₁ β₁ s₁ _ _ E h₁ S₁ fun vb σ₂ β₂ Vb s₂ h₂ p₂ e₂ m₂ S₂ => by
      obtain ⟨r, rfl, h₂⟩ := asR_true (v := va) h₂
      obtain ⟨j, rfl, h₂⟩ := asI_true (v := vb) h₂
      obtain ⟨x, hx, rfl⟩ := e₁
      obtain ⟨t, rfl⟩ := e₂
      refine itemL_go h₂ S₂ (getElem?_prefix p₂ hx) fun vo Vo h₃ e₃ => ?_
      obtain ⟨a, rfl, h₃⟩ := asI_true (v := vo) h₃
      obtain ⟨ta, rfl⟩ := e₃
      refine se.go A env h₀ L fm ρ σ₂ β₂ s₂ _ _ E h₃ S₂ fun vc σ₃ β₃ Vc s₃ h₄ p₃ e₄ m₃ S₃ => ?_
      obtain ⟨b, rfl, h₄⟩ := asI_true (v := vc) h₄
      obtain ⟨tb, rfl⟩ := e₄
      obtain ⟨c, hc, _, hop⟩ := sp.ex a b _ h₄
      refine hop _ _ _ _ _ _ _ _ fun t' tk => setL_go hc (S₃.toks tk) (getElem?_prefix (pre_trans p₂ p₃) hx) enc_int fun σ' s' h' m' S' => qn _ _ _ _ h' (pre_trans (pre_trans p₁ p₂) p₃) (((m₁.trans m₂).trans m₃).trans ((Mv.toks _ _).trans m')) S')⟩

/-! several names at once -/
inductive Tg (scope : Scope) (ns : List Str) (env : Env) : List (Value → Sem Unit) → List Nat → Prop
  | nil : Tg scope ns env [] []
  | name {x : Str} {np : Pos} {i : Nat} {ts : List (Value → Sem Unit)} {is : List Nat} : ns[i]? = some x → scope.names.lookup x = some .local → Tg scope ns env ts is → Tg scope ns env (assign (.Name x np) env :: ts) (i :: is)
  | bind {x : Str} {i : Nat} {ts : List (Value → Sem Unit)} {is : List Nat} : ns[i]? = some x → scope.names.lookup x = some .local → Tg scope ns env ts is → Tg scope ns env (bindName env x :: ts) (i :: is)

theorem bind_all {A : Around} {env : Env} (fm : Fm C n A scope env h₀ L) (hnd : ns.Nodup) {ts : List (Value → Sem Unit)} {is : List Nat} (g : Tg scope ns env ts is) : ∀ {vs : List MV} {Vs : List Value} {k : MEnv → Bool} {ρ : MEnv} {s : Shared} {Q : Unit → Shared → Prop} {E : Value → Shared → Prop},
    binds is k vs ρ = true → F2 (EncV β) vs Vs → St C h₀ L ns ρ σ β s → (∀ ρ' s', k ρ' = true → Mv s s' → St C h₀ L ns ρ' σ β s' → Q () s') → wpAny (model C.prog C.w) A (assignInOrder ts Vs) Q E s := by
  induction g with
  | nil =>
    intro vs Vs k ρ s Q E h e S q
    cases e with
    | nil => exact assignInOrder_nil (q _ _ h (Mv.refl _) S)
    | cons _ _ => cases h
  | name hx hl _ ih =>
    intro vs Vs k ρ s Q E h e S q
    cases e with
    | nil => cases h
    | cons a r => exact assignInOrder_cons (wpAny_assign_Name (store fm hnd S hx hl a fun s' m' S' => ih h r S' fun ρ'' s'' hk m'' S'' => q _ _ hk (m'.trans m'') S''))
  | bind hx hl _ ih =>
    intro vs Vs k ρ s Q E h e S q
    cases e with
    | nil => cases h
    | cons a r => exact assignInOrder_cons (wpAny_bindName (store fm hnd S hx hl a fun s' m' S' => ih h r S' fun ρ'' s'' hk m'' S'' => q _ _ hk (m'.trans m'') S''))

inductive Els (scope : Scope) (ns : List Str) : List PySem.Expr → List Nat → Prop
  | nil : Els scope ns [] []
  | cons {x : Str} {np : Pos} {i : Nat} {es : List PySem.Expr} {is : List Nat} : ns[i]? = some x → scope.names.lookup x = some .local → Els scope ns es is → Els scope ns (.Name x np :: es) (i :: is)
theorem Els.tg {es : List PySem.Expr} {is : List Nat} (h : Els scope ns es is) (env : Env) : ∃ ts, assignEach es env = ts.map (Prod.mk false) ∧ Tg scope ns env ts is ∧ ts.length = is.length := by
  induction h with
  | nil => exact ⟨[], rfl, .nil, rfl⟩
  | @cons x np i es is hx hl _ ih =>
    obtain ⟨ts, a, b, c⟩ := ih
    refine ⟨assign (.Name x np) env :: ts, ?_, .name hx hl b, by simp [c]⟩
    show (false, assign (.Name x np) env) :: assignEach es env = _
    rw [a]; rfl
theorem binds_len {is : List Nat} : ∀ {vs : List MV} {k : MEnv → Bool} {ρ : MEnv}, binds is k vs ρ = true → vs.length = is.length := by
  induction is with
  | nil => intro vs k ρ h; cases vs with
    | nil => rfl
    | cons _ _ => cases h
  | cons i r ih => intro vs k ρ h; cases vs with
    | nil => cases h
    | cons a b => rw [List.length_cons, List.length_cons, ih (ρ := MEnv.set ρ a i) h]
theorem find_false {ts : List (Value → Sem Unit)} : (ts.map (Prod.mk false)).findIdx? (·.1) = none := by
  induction ts with
  | nil => rfl
  | cons t r ih => rw [List.map_cons, List.findIdx?_cons]; simp

structure SndBd (C : Cx) (n : Nat) (scope : Scope) (ns : List Str) (target : PySem.Expr) (bd : MV → MEnv → Hp → (MEnv → Bool) → Bool) : Prop where
  go : ∀ (A : Around) (env : Env) (h₀ : Hx) (L : Addr), Fm C n A scope env h₀ L → ∀ (ρ : MEnv) (σ : Hp) (β : List Addr) (s : Shared) (v : MV) (V : Value) (k : MEnv → Bool) (Q : Unit → Shared → Prop) (E : Value → Shared → Prop), EncV β v V → bd v ρ σ k = true → St C h₀ L ns ρ σ β s →
    (∀ ρ' s', k ρ' = true → Mv s s' → St C h₀ L ns ρ' σ β s' → Q () s') → wpAny (model C.prog C.w) A (assign target env V) Q E s
  own : ∀ (A : Around) (ρ : MEnv) (σ : Hp) (β : List Addr) (s : Shared) (v : MV) (V : Value) (k : MEnv → Bool) (Q : Unit → Shared → Prop) (E : Value → Shared → Prop) (I l : Addr) (j : Nat), EncV β v V → bd v ρ σ k = true → s.heap.IsListIter I l j → Q () s → wpAny (model C.prog C.w) A (letOwnedTupleGo target (.ref I) V) Q E s

theorem bd_name (hnd : ns.Nodup) {i : Nat} {x : Str} {np : Pos} (hx : ns[i]? = some x) (hl : scope.names.lookup x = some .local) : SndBd C n scope ns (.Name x np) (fun v ρ _ k => k (ρ.set v i)) where
  go := fun A env h₀ L fm ρ σ β s v V k Q E e h S q => wpAny_assign_Name (store fm hnd S hx hl e fun s' m' S' => q _ _ h m' S')
  own := fun _ _ _ _ _ _ _ _ _ _ _ _ _ _ _ _ hQ => wpAny_pure hQ

theorem bindT_go {A : Around} {env : Env} (fm : Fm C n A scope env h₀ L) (hnd : ns.Nodup) {elts : List PySem.Expr} {is : List Nat} {kd : Nat} {tpos : Pos} (g : Els scope ns elts is) {v : MV} {V : Value} {k : MEnv → Bool} {Q : Unit → Shared → Prop} {E : Value → Shared → Prop} (e : EncV β v V) (h : bindT σ is v ρ k = true) (S : St C h₀ L ns ρ σ β s)
    (q : ∀ ρ' s', k ρ' = true → Mv s s' → St C h₀ L ns ρ' σ β s' → Q () s') : wpAny (model C.prog C.w) A (assign (.Tuple elts kd tpos) env V) Q E s := by
  obtain ⟨r, rfl, h⟩ := asR_true (v := v) h
  obtain ⟨ob, ho, h₃⟩ := look_true (σ := σ) h
  obtain ⟨vs, rfl, h₄⟩ := asT_true (o := ob) h₃
  obtain ⟨x, hx, rfl⟩ := e
  obtain ⟨ob, hob, items, rfl, hf⟩ := S.get hx ho
  obtain ⟨ts, ha, ht, hl⟩ := g.tg env
  have hlen : ts.length = items.size := by rw [hl, ← binds_len h₄, hf.length]; simp
  refine assign_Tuple_tuple fm.handled (items := items) ⟨_, hob, rfl, _, rfl⟩ (by rw [ha, List.length_map, hlen]) (by rw [ha]; exact find_false) fun h' he => ?_
  rw [ha, List.map_map]
  have : ts.map ((·.2) ∘ Prod.mk false) = ts := by simp [Function.comp_def]
  rw [this]
  have S' : St C h₀ L ns ρ σ β { s with heap := h' } := S.keep (tk := s.toks) fun b o eb => he b o (fun q => by subst q; exact absurd (Heap.lt_size eb) (Nat.lt_irrefl _)) eb
  exact bind_all fm hnd ht h₄ hf S' fun ρ' s' hk m' S'' => q _ _ hk ((Mv.heap _ _).trans m') S''
theorem bd_tuple (hnd : ns.Nodup) {elts : List PySem.Expr} {is : List Nat} {kd : Nat} {tpos : Pos} (g : Els scope ns elts is) : SndBd C n scope ns (.Tuple elts kd tpos) (fun v ρ σ k => bindT σ is v ρ k) where
  go := fun A env h₀ L fm ρ σ β s v V k Q E e h S q => bindT_go fm hnd g e h S q
  own := fun A ρ σ β s v V k Q E I l j e h hit hQ => by
    obtain ⟨r, rfl, h⟩ := asR_true (v := v) h
    obtain ⟨x, hx, rfl⟩ := e
    exact wpAny_letOwnedTupleGo_listiter hit hQ

theorem s_unp (hnd : ns.Nodup) {elts : List PySem.Expr} {is : List Nat} {kd : Nat} {tpos pos : Pos} {e : PySem.Expr} {f : KE} (g : Els scope ns elts is) (se : SndE C n scope ns e f) (hs : ∀ line env, swapsWithSole [.Tuple elts kd tpos] e line env = pure false) (hw : ∀ env, swappedStores [.Tuple elts kd tpos] e env = pure none) :
    SndS C n scope ns (.Assign [.Tuple elts kd tpos] e pos) (sUnp is f) :=
  ⟨fun A env h₀ L fm ρ σ β s kn kc kr Q E h S qn qc qr => Assign_Tuple (hs := hs _ _) (hw := hw _) (se.go A env h₀ L fm ρ σ β s _ _ E h S fun v σ₁ β₁ V s₁ h₁ p₁ e₁ m₁ S₁ =>
    bindT_go fm hnd g e₁ h₁ S₁ fun ρ' s' hk m' S' => qn _ _ _ _ hk p₁ (m₁.trans m') S')⟩

inductive Nms (scope : Scope) (ns : List Str) : List Str → List Nat → Prop
  | nil : Nms scope ns [] []
  | cons {x : Str} {i : Nat} {xs : List Str} {is : List Nat} : ns[i]? = some x → scope.names.lookup x = some .local → Nms scope ns xs is → Nms scope ns (x :: xs) (i :: is)
theorem Nms.tg {xs : List Str} {is : List Nat} (h : Nms scope ns xs is) (env : Env) : Tg scope ns env (xs.map fun x => bindName env x) is := by
  induction h with
  | nil => exact .nil
  | cons hx hl _ ih => exact .bind hx hl ih
theorem Nms.len {xs : List Str} {is : List Nat} (h : Nms scope ns xs is) : xs.length = is.length := by
  induction h with
  | nil => rfl
  | cons _ _ _ ih => rw [List.length_cons, List.length_cons, ih]
theorem F2.snoc {α γ : Type} {R : α → γ → Prop} {l : List α} {l' : List γ} (h : F2 R l l') {a : α} {b : γ} (r : R a b) : F2 R (l ++ [a]) (l' ++ [b]) := by
  induction h with
  | nil => exact .cons r .nil
  | cons q _ ih => exact .cons q ih
theorem F2.rev {α γ : Type} {R : α → γ → Prop} {l : List α} {l' : List γ} (h : F2 R l l') : F2 R l.reverse l'.reverse := by
  induction h with
  | nil => exact .nil
  | cons q _ ih => rw [List.reverse_cons, List.reverse_cons]; exact ih.snoc q
theorem s_unpR (hnd : ns.Nodup) {elts : List PySem.Expr} {xs : List Str} {is : List Nat} {kd : Nat} {tpos pos : Pos} {e : PySem.Expr} {f : KE} (g : Nms scope ns xs is) (se : SndE C n scope ns e f) (hs : ∀ line env, swapsWithSole [.Tuple elts kd tpos] e line env = pure false)
    (hw : ∀ qual L f cdv, swappedStores [.Tuple elts kd tpos] e (envOf qual scope L f cdv) = pure (some xs.reverse)) : SndS C n scope ns (.Assign [.Tuple elts kd tpos] e pos) (sUnpR is f) :=
  ⟨fun A env h₀ L fm ρ σ β s kn kc kr Q E h S qn qc qr => by
    have hw' : swappedStores [.Tuple elts kd tpos] e env = pure (some xs.reverse) := by obtain ⟨_, _, _, rfl⟩ := fm.env_eq; exact hw _ _ _ _
    refine Assign_Tuple_swapped (hs := hs _ _) (hw := hw') (se.go A env h₀ L fm ρ σ β s _ _ E h S fun v σ₁ β₁ V s₁ h₁ p₁ e₁ m₁ S₁ => ?_)
    obtain ⟨r, rfl, h₁⟩ := asR_true (v := v) h₁
    obtain ⟨ob, ho, h₃⟩ := look_true (σ := σ₁) h₁
    obtain ⟨vs, rfl, h₄⟩ := asT_true (o := ob) h₃
    obtain ⟨x, hx, rfl⟩ := e₁
    obtain ⟨ob, hob, items, rfl, hf⟩ := S₁.get hx ho
    have hlen : xs.reverse.length = items.size := by
      have h5 := binds_len h₄
      have h6 := hf.length
      rw [List.length_reverse] at h5 ⊢
      rw [g.len, ← h5, h6]; simp
    rw [hlen]
    refine unpackItems_tuple fm.handled (items := items) ⟨_, hob, rfl, _, rfl⟩ fun h' he => ?_
    rw [List.reverse_reverse]
    have S' : St C h₀ L ns ρ σ₁ β₁ { s₁ with heap := h' } := S₁.keep (tk := s₁.toks) fun b o eb => he b o (fun q => by subst q; exact absurd (Heap.lt_size eb) (Nat.lt_irrefl _)) eb
    exact bind_all fm hnd (g.tg env) h₄ hf.rev S' fun ρ' s' hk m' S'' => qn _ _ _ _ hk p₁ (m₁.trans ((Mv.heap _ _).trans m')) S''⟩
end
end Mine

namespace Mine

section
variable {C : Cx} {n : Nat} {scope : Scope} {ns : List Str} {h₀ : Hx} {L : Addr} {ρ : MEnv} {σ : Hp} {β : List Addr} {s : Shared}

/-- an address that the state does not speak of -/
structure Fre (h₀ : Hx) (L : Addr) (β : List Addr) (I : Addr) : Prop where
  b : I ∉ β
  l : I ≠ L
  h : h₀.h.get? I = none
  x : ∀ p ∈ h₀.X, p.1 ≠ I

theorem St.fre (S : St C h₀ L ns ρ σ β s) {h : Heap} (e : s.heap = h) : Fre h₀ L β h.objs.size := by
  subst e
  obtain ⟨m, news, F, N, R, l⟩ := S.ex
  exact ⟨not_in_addrs N R, Nat.ne_of_gt F.ns.lt, F.fresh, not_size N⟩
theorem Fre.push {I x : Addr} (f : Fre h₀ L β I) (hx : I ≠ x) : Fre h₀ L (β ++ [x]) I := ⟨fun hm => by
  rcases List.mem_append.mp hm with q | q
  · exact f.b q
  · simp at q; exact hx q, f.l, f.h, f.x⟩

theorem St.but (S : St C h₀ L ns ρ σ β s) {I : Addr} (f : Fre h₀ L β I) {h' : Heap} {tk : Nat} (hk : ∀ b o, b ≠ I → s.heap.get? b = some o → h'.get? b = some o) : St C h₀ L ns ρ σ β { s with heap := h', toks := tk } := by
  obtain ⟨m, news, F, N, R, l⟩ := S.ex
  refine ⟨m, news, ⟨F.ns.at' fun o e => hk _ o (Ne.symm f.l) e, fun b o e => hk b o (fun q => ?_) (F.keep b o e), F.above⟩, fun p hp => ⟨hk _ _ (fun q => ?_) (N p hp).1, (N p hp).2⟩, R, l⟩
  · subst q; rw [f.h] at e; cases e
  · rcases List.mem_append.mp hp with h | h
    · exact f.b (by rw [← R.addrs, ← q]; exact List.mem_map_of_mem h)
    · exact f.x p h q

theorem St.addX (S : St C h₀ L ns ρ σ β s) {I : Addr} {o : Obj} (f : Fre h₀ L β I) (ho : s.heap.get? I = some o) : St C ⟨h₀.h, (I, o) :: h₀.X⟩ L ns ρ σ β s := by
  obtain ⟨m, news, F, N, R, l, d⟩ := S.ex
  refine ⟨m, news, F, fun p hp => ?_, R, l, fun p hp => ?_⟩
  · rcases List.mem_append.mp hp with h | h
    · exact N p (List.mem_append_left _ h)
    · rcases List.mem_cons.mp h with rfl | h
      · exact ⟨ho, f.l, f.h⟩
      · exact N p (List.mem_append_right _ h)
  · rcases List.mem_cons.mp hp with rfl | h
    · exact f.b
    · exact d p h
theorem St.dropX {I : Addr} {o : Obj} (S : St C ⟨h₀.h, (I, o) :: h₀.X⟩ L ns ρ σ β s) : St C h₀ L ns ρ σ β s ∧ s.heap.get? I = some o ∧ I ∉ β := by
  obtain ⟨m, news, F, N, R, l, d⟩ := S.ex
  refine ⟨⟨m, news, F, fun p hp => ?_, R, l, fun p hp => d p (.tail _ hp)⟩, (N _ (List.mem_append_right _ (.head _))).1, d _ (.head _)⟩
  rcases List.mem_append.mp hp with h | h
  · exact N p (List.mem_append_left _ h)
  · exact N p (List.mem_append_right _ (.tail _ h))
theorem Fm.withX {A : Around} {env : Env} (fm : Fm C n A scope env h₀ L) (X : List (Addr × Obj)) : Fm C n A scope env ⟨h₀.h, X⟩ L := ⟨fm.env_eq, fm.kind, fm.handled, fm.depth, fm.units, fm.below, fm.inK, fm.top⟩

theorem Fm.pair {A : Around} {env : Env} (fm : Fm C n A scope env h₀ L) : (env.scope.kind == .class || (env.scope.kind == .module && env.locals != env.globals)) = false := by
  obtain ⟨q, f, cdv, rfl⟩ := fm.env_eq
  show (scope.kind == .class || (scope.kind == .module && _)) = false
  rw [fm.kind]; rfl

theorem toN_eq (x : Int) : toN x = x.toNat := by cases x <;> rfl

abbrev LoopR (C : Cx) (A : Around) (env : Env) (E : Value → Shared → Prop) (Q : Flow → Shared → Prop) (r : Result) (s' : Shared) : Prop := match r with | .ok f => Q f s' | .error e => cameBackBy (model C.prog C.w) A env E e s'

theorem loopR {A : Around} {env : Env} (fm : Fm C n A scope env h₀ L) (hnd : ns.Nodup) {i : Nat} {x : Str} {np : Pos} {body : List PySem.Stmt} {g : KS} (hx : ns[i]? = some x) (hl : scope.names.lookup x = some .local) (sb : SndB C n scope ns body g) {st x0 : Int} {m : Nat} {I : Addr}
    {kn : MEnv → Hp → Bool} {kr : K1} {Q : Flow → Shared → Prop} {E : Value → Shared → Prop} (h : forR i st g kn kr m x0 ρ σ = true) (S : St C h₀ L ns ρ σ β s) (fI : Fre h₀ L β I) (hit : IsRangeIter s.heap I x0 m st)
    (qn : ContN C h₀ L ns β s .next kn Q) (qr : ContR C h₀ L ns β s kr Q) : codeAny (model C.prog C.w) A (.forLoop (.Name x np) (.ref I) body [] env) (LoopR C A env E Q) s := by
  refine codeAny_forLoop (fun k s' => ∃ y ρ' σ' β', forR i st g kn kr k y ρ' σ' = true ∧ St C h₀ L ns ρ' σ' β' s' ∧ β <+: β' ∧ Mv s s' ∧ Fre h₀ L β' I ∧ IsRangeIter s'.heap I y k st) ?_ m ⟨x0, ρ, σ, β, h, S, List.prefix_rfl', Mv.refl _, fI, hit⟩
  rintro k s' ⟨y, ρ', σ', β', hk, S', p', m', f', hit'⟩
  cases k with
  | zero =>
    refine wpAny_pyNext_range_end fm.handled hit' (Int.le_refl 0) fun h' he => ?_
    exact wpAny_execs_nil (qn _ _ _ _ hk p' (m'.trans (Mv.heap _ _)) (S'.but (tk := s'.toks) f' fun b o hb e => he b o hb e))
  | succ k =>
    replace hk : g (ρ'.set (.int y) i) σ' (forR i st g kn kr k (y + st)) (forR i st g kn kr k (y + st)) kr = true := hk
    refine wpAny_pyNext_range_item hit' (by omega) fun h' hit₁ hs' => ?_
    have e1 : ((k + 1 : Nat) : Int) - 1 = k := by omega
    rw [e1] at hit₁
    have S₁ := (S'.but (tk := s'.toks + 1) f' fun b o hb e => hs'.extBut b o hb e).addX f' hit₁
    refine wpAny_assign_Name (store (fm.withX _) hnd S₁ hx hl enc_int fun s₂ m₂ S₂ => ?_)
    refine sb.go A env ⟨h₀.h, _⟩ L (fm.withX _) _ _ _ _ _ _ _ _ _ hk S₂ ?_ ?_ ?_
    · intro ρ₃ σ₃ β₃ s₃ h₃ p₃ m₃ S₃
      obtain ⟨a, b, c⟩ := S₃.dropX
      exact ⟨k, Nat.lt_succ_self _, _, _, _, _, h₃, a, pre_trans p' p₃, ((m'.trans (Mv.to _ _ _)).trans m₂).trans m₃, ⟨c, f'.l, f'.h, f'.x⟩, b⟩
    · intro ρ₃ σ₃ β₃ s₃ h₃ p₃ m₃ S₃
      obtain ⟨a, b, c⟩ := S₃.dropX
      exact ⟨k, Nat.lt_succ_self _, _, _, _, _, h₃, a, pre_trans p' p₃, ((m'.trans (Mv.to _ _ _)).trans m₂).trans m₃, ⟨c, f'.l, f'.h, f'.x⟩, b⟩
    · intro v ρ₃ σ₃ β₃ V s₃ h₃ p₃ e₃ m₃ S₃
      obtain ⟨a, b, c⟩ := S₃.dropX
      exact qr _ _ _ _ _ _ h₃ (pre_trans p' p₃) e₃ (((m'.trans (Mv.to _ _ _)).trans m₂).trans m₃) a

theorem s_forR (hnd : ns.Nodup) {i : Nat} {x : Str} {np pos : Pos} {iter : PySem.Expr} {body : List PySem.Stmt} {f : KE} {g : KS} (hx : ns[i]? = some x) (hl : scope.names.lookup x = some .local) (si : SndE C n scope ns iter f) (hs : ∀ env y, foldedSetIterable iter env y = pure y) (sb : SndB C n scope ns body g) :
    SndS C n scope ns (.For (.Name x np) iter body [] pos) (sForR i f g) :=
  ⟨fun A env h₀ L fm ρ σ β s kn kc kr Q E h S qn qc qr => wpAny_For (hs := hs _) (si.go A env h₀ L fm ρ σ β s _ _ E h S fun v σ₁ β₁ V s₁ h₁ p₁ e₁ m₁ S₁ => by
    obtain ⟨r, rfl, h₁⟩ := asR_true (v := v) h₁
    obtain ⟨ob, ho, h₃⟩ := look_true (σ := σ₁) h₁
    obtain ⟨lo, hi, st, rfl, h₄⟩ := asRg_true (o := ob) h₃
    obtain ⟨a, hx', rfl⟩ := e₁
    obtain ⟨ob, hob, t, u, w, rfl, hsm⟩ := S₁.get hx' ho
    refine wpAny_pyIter_range hob hsm ?_
    have S₂ : St C h₀ L ns ρ σ₁ β₁ { s₁ with heap := s₁.heap.push { cls := .type "range_iterator", data := .fields #[rawInt lo, rawInt (Builtin.Range.rangeSize lo hi st), rawInt st] } } := S₁.keep (tk := s₁.toks) fun b o e => Heap.get?_push_of_some _ e
    have fI := S₁.fre rfl
    cases h1 : eqI st (.ofNat 1) with
    | true =>
      rw [h1] at h₄
      rw [beq_eqI, beq_iff_eq] at h1
      subst h1
      have e : Builtin.Range.rangeSize lo hi (Int.ofNat 1) = ((toN (hi - lo) : Nat) : Int) := by
        show Builtin.Range.rangeSize lo hi 1 = _
        rw [rangeSize_one, toN_eq]; split <;> omega
      refine loopR fm hnd hx hl sb (m := toN (hi - lo)) h₄ S₂ fI ?_ (qn.from p₁ (m₁.trans (Mv.heap _ _))) (qr.from p₁ (m₁.trans (Mv.heap _ _)))
      rw [← e]
      exact Heap.get?_push_size _ rfl
    | false =>
      rw [h1] at h₄
      obtain ⟨h2, h₅⟩ := cnd_true h₄
      rw [beq_eqI, beq_iff_eq] at h2
      subst h2
      have e : Builtin.Range.rangeSize lo hi (Int.negSucc 0) = ((toN (lo - hi) : Nat) : Int) := by
        show Builtin.Range.rangeSize lo hi (-1) = _
        rw [rangeSize_down, toN_eq]; split <;> omega
      refine loopR fm hnd hx hl sb (m := toN (lo - hi)) h₅ S₂ fI ?_ (qn.from p₁ (m₁.trans (Mv.heap _ _))) (qr.from p₁ (m₁.trans (Mv.heap _ _)))
      rw [← e]
      exact Heap.get?_push_size _ rfl)⟩

theorem loopL {A : Around} {env : Env} (fm : Fm C n A scope env h₀ L) {target : PySem.Expr} {bd : MV → MEnv → Hp → (MEnv → Bool) → Bool} {body : List PySem.Stmt} {g : KS} (hb : SndBd C n scope ns target bd) (sb : SndB C n scope ns body g) {a m j0 : Nat} {x I : Addr}
    {kn : MEnv → Hp → Bool} {kr : K1} {Q : Flow → Shared → Prop} {E : Value → Shared → Prop} (h : forL a bd g kn kr m j0 ρ σ = true) (S : St C h₀ L ns ρ σ β s) (hx : β[a]? = some x) (fI : Fre h₀ L β I) (hit : s.heap.IsListIter I x j0)
    (qn : ContN C h₀ L ns β s .next kn Q) (qr : ContR C h₀ L ns β s kr Q) : codeAny (model C.prog C.w) A (.forLoop target (.ref I) body [] env) (LoopR C A env E Q) s := by
  refine codeAny_forLoop_any (fun k s' => ∃ j ρ' σ' β', forL a bd g kn kr k j ρ' σ' = true ∧ St C h₀ L ns ρ' σ' β' s' ∧ β <+: β' ∧ Mv s s' ∧ Fre h₀ L β' I ∧ s'.heap.IsListIter I x j) ?_ m ⟨j0, ρ, σ, β, h, S, List.prefix_rfl', Mv.refl _, fI, hit⟩
  rintro k s' ⟨j, ρ', σ', β', hk, S', p', m', f', hit'⟩
  cases k with
  | zero => cases hk
  | succ k =>
    replace hk : look σ' a (fun o => asL o fun n t => Bool.rec (kn ρ' σ') (ko (t.get j) fun v => bd v ρ' σ' fun ρ => g ρ σ' (forL a bd g kn kr k (j + 1)) (forL a bd g kn kr k (j + 1)) kr) (Nat.blt j n)) = true := hk
    obtain ⟨ob, ho, h₃⟩ := look_true (σ := σ') hk
    obtain ⟨nl, t, rfl, h₄⟩ := asL_true (o := ob) h₃
    obtain ⟨ob, hob, items, ep, rfl, hsz, hmax, hi⟩ := S'.get (getElem?_prefix p' hx) ho
    have hL : s'.heap.IsList x items := ⟨_, hob, rfl, ep, rfl⟩
    cases hlt : Nat.blt j nl with
    | false =>
      rw [hlt] at h₄
      have hge : nl ≤ j := by
        rcases Nat.lt_or_ge j nl with q | q
        · have := (Nat.blt_eq (x := j) (y := nl)).mpr q; rw [hlt] at this; cases this
        · exact q
      refine wpAny_pyNext_list_end fm.handled hit' hL (by simp; omega) fun h' he => ?_
      exact wpAny_execs_nil (qn _ _ _ _ h₄ p' (m'.trans (Mv.heap _ _)) (S'.but (tk := s'.toks) f' fun b o hb e => he b o hb e))
    | true =>
      rw [hlt] at h₄
      rw [Nat.blt_eq] at hlt
      obtain ⟨v, hv, h₅⟩ := ko_true (x := t.get j) h₄
      obtain ⟨v', V, hv', hV, heV⟩ := hi j hlt
      rw [hv] at hv'; cases hv'
      refine wpAny_pyNext_list_item hit' hL hV fun h' hit₁ hs' => ?_
      have S₁ : St C h₀ L ns ρ' σ' β' { s' with heap := h' } := S'.but (tk := s'.toks) f' fun b o hb e => hs'.extBut b o hb e
      refine hb.own A ρ' σ' β' _ v V _ _ _ I x (j + 1) heV h₅ hit₁ ?_
      obtain ⟨oI, hoI, hIs⟩ := hit₁
      refine hb.go A env ⟨h₀.h, _⟩ L (fm.withX _) ρ' σ' β' _ v V _ _ _ heV h₅ (S₁.addX f' hoI) fun ρ₂ s₂ h₆ m₂ S₂ => ?_
      refine sb.go A env ⟨h₀.h, _⟩ L (fm.withX _) _ _ _ _ _ _ _ _ _ h₆ S₂ ?_ ?_ ?_
      · intro ρ₃ σ₃ β₃ s₃ h₃ p₃ m₃ S₃
        obtain ⟨a, b, c⟩ := S₃.dropX
        exact ⟨k, Nat.lt_succ_self _, _, _, _, _, h₃, a, pre_trans p' p₃, ((m'.trans (Mv.heap _ _)).trans m₂).trans m₃, ⟨c, f'.l, f'.h, f'.x⟩, ⟨oI, b, hIs⟩⟩
      · intro ρ₃ σ₃ β₃ s₃ h₃ p₃ m₃ S₃
        obtain ⟨a, b, c⟩ := S₃.dropX
        exact ⟨k, Nat.lt_succ_self _, _, _, _, _, h₃, a, pre_trans p' p₃, ((m'.trans (Mv.heap _ _)).trans m₂).trans m₃, ⟨c, f'.l, f'.h, f'.x⟩, ⟨oI, b, hIs⟩⟩
      · intro v ρ₃ σ₃ β₃ V s₃ h₃ p₃ e₃ m₃ S₃
        obtain ⟨a, b, c⟩ := S₃.dropX
        exact qr _ _ _ _ _ _ h₃ (pre_trans p' p₃) e₃ (((m'.trans (Mv.heap _ _)).trans m₂).trans m₃) a

theorem forL_list {a m j : Nat} {bd : MV → MEnv → Hp → (MEnv → Bool) → Bool} {g : KS} {kn : MEnv → Hp → Bool} {kr : K1} (h : forL a bd g kn kr m j ρ σ = true) : ∃ n t, σ.t.get a = some (.list n t) := by
  cases m with
  | zero => cases h
  | succ k =>
    replace h : look σ a (fun o => asL o fun n t => Bool.rec (kn ρ σ) (ko (t.get j) fun v => bd v ρ σ fun ρ => g ρ σ (forL a bd g kn kr k (j + 1)) (forL a bd g kn kr k (j + 1)) kr) (Nat.blt j n)) = true := h
    obtain ⟨ob, ho, h₃⟩ := look_true (σ := σ) h
    obtain ⟨nl, t, rfl, h₄⟩ := asL_true (o := ob) h₃
    exact ⟨nl, t, ho⟩
theorem s_forB {target iter : PySem.Expr} {bd : MV → MEnv → Hp → (MEnv → Bool) → Bool} {pos : Pos} {body : List PySem.Stmt} {f : KE} {g : KS} (hb : SndBd C n scope ns target bd) (si : SndE C n scope ns iter f) (hs : ∀ env y, foldedSetIterable iter env y = pure y) (sb : SndB C n scope ns body g) :
    SndS C n scope ns (.For target iter body [] pos) (fun ρ σ kn _ kr => f ρ σ fun v σ => asR v fun a => forL a bd g kn kr 4096 0 ρ σ) :=
  ⟨fun A env h₀ L fm ρ σ β s kn kc kr Q E h S qn qc qr => wpAny_For (hs := hs _) (si.go A env h₀ L fm ρ σ β s _ _ E h S fun v σ₁ β₁ V s₁ h₁ p₁ e₁ m₁ S₁ => by
    obtain ⟨r, rfl, h₅⟩ := asR_true (v := v) h₁
    obtain ⟨x, hx, rfl⟩ := e₁
    obtain ⟨nl, t, ho⟩ := forL_list h₅
    obtain ⟨ob, hob, items, ep, rfl, hsz, hmax, hi⟩ := S₁.get hx ho
    refine wpAny_pyIter_list (items := items) ⟨_, hob, rfl, ep, rfl⟩ ?_
    have S₂ : St C h₀ L ns ρ σ₁ β₁ { s₁ with heap := s₁.heap.push { cls := .type "list_iterator", data := .fields #[.ref x, .int 0 0] } } := S₁.keep (tk := s₁.toks) fun b o e => Heap.get?_push_of_some _ e
    exact loopL fm hb sb h₅ S₂ hx (S₁.fre rfl) ⟨_, Heap.get?_push_size _ rfl, rfl, rfl⟩ (qn.from p₁ (m₁.trans (Mv.heap _ _))) (qr.from p₁ (m₁.trans (Mv.heap _ _))))⟩
theorem s_forL (hnd : ns.Nodup) {i : Nat} {x : Str} {np pos : Pos} {iter : PySem.Expr} {body : List PySem.Stmt} {f : KE} {g : KS} (hx : ns[i]? = some x) (hl : scope.names.lookup x = some .local) (si : SndE C n scope ns iter f) (hs : ∀ env y, foldedSetIterable iter env y = pure y) (sb : SndB C n scope ns body g) :
    SndS C n scope ns (.For (.Name x np) iter body [] pos) (sForL i f g) := s_forB (bd_name hnd hx hl) si hs sb
theorem s_forT (hnd : ns.Nodup) {elts : List PySem.Expr} {is : List Nat} {kd : Nat} {tpos pos : Pos} {iter : PySem.Expr} {body : List PySem.Stmt} {f : KE} {g : KS} (ge : Els scope ns elts is) (si : SndE C n scope ns iter f) (hs : ∀ env y, foldedSetIterable iter env y = pure y) (sb : SndB C n scope ns body g) :
    SndS C n scope ns (.For (.Tuple elts kd tpos) iter body [] pos) (sForT is f g) := s_forB (bd_tuple hnd ge) si hs sb

theorem s_whl {c : PySem.Expr} {body : List PySem.Stmt} {t : KT} {g : KS} {pos : Pos} (sc : SndT C n scope ns c t) (sb : SndB C n scope ns body g) : SndS C n scope ns (.While c body [] pos) (sWhl t g) :=
  ⟨fun A env h₀ L fm ρ σ β s kn kc kr Q E h S qn qc qr => wpAny_While (by
    refine codeAny_whileLoop (fun k s' => ∃ ρ' σ' β', whileL t g kn kr k ρ' σ' = true ∧ St C h₀ L ns ρ' σ' β' s' ∧ β <+: β' ∧ Mv s s') ?_ 4096 ⟨ρ, σ, β, h, S, List.prefix_rfl', Mv.refl _⟩
    rintro k s' ⟨ρ', σ', β', hk, S', p', m'⟩
    cases k with
    | zero => cases hk
    | succ k =>
      replace hk : t ρ' σ' (fun b σ => Bool.rec (kn ρ' σ) (g ρ' σ (whileL t g kn kr k) (whileL t g kn kr k) kr) b) = true := hk
      refine sc.go A env h₀ L fm ρ' σ' β' s' _ _ _ _ rfl hk S' fun b σ₁ β₁ s₁ h₁ p₁ m₁ S₁ => ?_
      cases b with
      | false => exact wpAny_execs_nil (qn _ _ _ _ h₁ (pre_trans p' p₁) (m'.trans m₁) S₁)
      | true =>
        refine sb.go A env h₀ L fm _ _ _ _ _ _ _ _ _ h₁ S₁ ?_ ?_ ?_
        · intro ρ₃ σ₃ β₃ s₃ h₃ p₃ m₃ S₃
          exact ⟨k, Nat.lt_succ_self _, _, _, _, h₃, S₃, pre_trans (pre_trans p' p₁) p₃, (m'.trans m₁).trans m₃⟩
        · intro ρ₃ σ₃ β₃ s₃ h₃ p₃ m₃ S₃
          exact ⟨k, Nat.lt_succ_self _, _, _, _, h₃, S₃, pre_trans (pre_trans p' p₁) p₃, (m'.trans m₁).trans m₃⟩
        · intro v ρ₃ σ₃ β₃ V s₃ h₃ p₃ e₃ m₃ S₃
          exact qr _ _ _ _ _ _ h₃ (pre_trans (pre_trans p' p₁) p₃) e₃ ((m'.trans m₁).trans m₃) S₃)⟩
end
end Mine

namespace Mine

structure SndF (C : Cx) (n : Nat) (fa : Addr) (g : FD) : Prop where
  go : ∀ (scope : Scope) (ns : List Str) (A : Around) (env : Env) (h₀ : Hx) (L : Addr), Fm C n A scope env h₀ L → ∀ (ρ : MEnv) (vs : List MV) (Vs : List Value) (σ : Hp) (β : List Addr) (s : Shared) (k : K1) (R : Result → Shared → Prop),
    g vs σ k = true → St C h₀ L ns ρ σ β s → F2 (EncV β) vs Vs → (∀ v σ' β' V s', k v σ' = true → β <+: β' → EncV β' v V → Mv s s' → St C h₀ L ns ρ σ' β' s' → R (.ok (.ret V)) s') → codeAny (model C.prog C.w) A (.call (.ref fa) ⟨Vs, []⟩) R s

section
variable {C : Cx} {n : Nat} {scope : Scope} {ns : List Str}

theorem Fm.less {A : Around} {env : Env} {h₀ : Hx} {L : Addr} {n' : Nat} (fm : Fm C n A scope env h₀ L) (h : n' ≤ n) : Fm C n' A scope env h₀ L :=
  ⟨fm.env_eq, fm.kind, fm.handled, by have := fm.depth; omega, by have := fm.units; omega, fm.below, fm.inK, fm.top⟩

theorem e_call {fa : Addr} {g : FD} {x : Str} {es : List PySem.Expr} {fs : List KE} {np pos : Pos} {n' : Nat} (sf : SndF C n' fa g) (hn : n' ≤ n) (sa : SndA C n scope ns es fs) (hne : es ≠ []) (hx : nsIn C.K mainGlobals x = some (some (.ref fa))) (hk : keepIn C.K (.ref fa) = true)
    (hl : scope.names.lookup x = some .globalImplicit) (hd : (x == ("__debug__" : Str)) = false) : SndE C n scope ns (.Call (.Name x np) es [] pos) (eCall g fs) :=
  ⟨fun A env h₀ L fm ρ σ β s k Q E h S q => wpAny_Call_NameR (nameG fm S hx hl hd (callWith_of (P := C.K.In) (by rw [sa.plain]; rfl) (fun h X => keeps_K hk h X) (args_go sa hne
    (sa.go A env h₀ L fm ρ σ β s _ _ E _ h S fun vs σ₁ β₁ Vs s₁ h₁ p₁ ea m₁ S₁ => ⟨S₁.inK fm.inK, wpAny_call (sf.go scope ns A env h₀ L (fm.less hn) ρ vs _ σ₁ β₁ s₁ k _ h₁ S₁ ea
      fun v σ' β' V s' h' p' e' m' S' => q _ _ _ _ _ h' (pre_trans p₁ p') e' (m₁.trans m') S')⟩))))⟩

theorem get_append {vs : List MV} : ∀ {r : MEnv} {i : Nat}, MEnv.get (vs ++ r) i = if i < vs.length then vs.getD i .unb else MEnv.get r (i - vs.length) := by
  induction vs with
  | nil => intro r i; simp
  | cons a b ih =>
    intro r i
    cases i with
    | zero => rfl
    | succ i =>
      show MEnv.get (b ++ r) i = _
      rw [ih]
      by_cases h : i < b.length
      · rw [if_pos h, if_pos (by simp; omega)]; simp
      · rw [if_neg h, if_neg (by simp; omega)]; simp
theorem get_unbs : ∀ (m i : Nat), MEnv.get (unbs m) i = .unb := by
  intro m
  induction m with
  | zero => intro i; rfl
  | succ m ih => intro i; cases i with
    | zero => rfl
    | succ i => exact ih i

theorem lookup_zip : ∀ {pn : List Str} {Vs : List Value} {i : Nat} {x : Str} {V : Value}, pn.Nodup → pn[i]? = some x → Vs[i]? = some V → (pn.zip Vs).reverse.lookup x = some V
  | [], _, _, _, _, _, h, _ => by simp at h
  | _ :: _, [], _, _, _, _, _, h => by simp at h
  | p :: pn, W :: Vs, 0, x, V, hnd, h, hV => by
    simp at h hV; subst h; subst hV
    rw [List.zip_cons_cons, List.reverse_cons, List.lookup_append]
    have : (pn.zip Vs).reverse.lookup p = none := by
      rw [List.lookup_eq_none_iff]
      intro q hq
      have hm : q.1 ∈ pn := by
        have := List.mem_reverse.mp hq
        exact (List.of_mem_zip this).1
      have hne : p ≠ q.1 := by rintro rfl; exact (List.nodup_cons.mp hnd).1 hm
      simpa using hne
    rw [this]; simp [List.lookup]
  | p :: pn, W :: Vs, i + 1, x, V, hnd, h, hV => by
    simp only [List.getElem?_cons_succ] at h hV
    rw [List.zip_cons_cons, List.reverse_cons, List.lookup_append, lookup_zip (List.nodup_cons.mp hnd).2 h hV]; rfl

structure FnAt (C : Cx) (fa : Addr) (qual : Str) (body : List PySem.Stmt) (scope : Scope) (pn : List Str) : Prop where
  ex : ∃ (name : Str) (params : Arguments) (dV kV doc pm : Value) (an : Option Addr) (cdv ct oc : Value) (od : Option Addr) (osl : Array (Option Value)), C.K.lookup fa = some ⟨oc, od, .func (fnOf name qual params body scope dV kV doc pm an cdv ct), osl⟩ ∧ codeIn C.K cdv qual = true ∧
    ∀ Vs : List Value, Vs.length = pn.length → bindArgs (fnOf name qual params body scope dV kV doc pm an cdv ct) ⟨Vs, []⟩ = pure (pn.zip Vs)
  co : scope.isCoroutine = false
  gen : scope.isGenerator = false
  kind : scope.kind = .function
  cell : ∀ x ∈ scope.names, x.2 ≠ .cell
  loc : ∀ x ∈ pn, scope.names.lookup x = some .local
  nd : pn.Nodup

theorem fn_sound {fa : Addr} {qual : Str} {body : List PySem.Stmt} {scope : Scope} {pn ns' : List Str} {n' np nl : Nat} {f : KS} (at_ : FnAt C fa qual body scope pn) (hpre : pn <+: ns') (hnp : pn.length = np) (sb : SndB C n' scope ns' body f) (hn : n' + 2 ≤ n) : SndF C n fa (fn np nl f) :=
  ⟨fun scope₀ ns A env h₀ L fm ρ vs Vs σ β s k R h S ea q => by
    obtain ⟨hlen, h⟩ := cnd_true h
    have hlen : llen vs = np := Nat.eq_of_beq_eq_true hlen
    rw [llen_eq] at hlen
    obtain ⟨m, news, F, N, Rl, l⟩ := S.ex
    obtain ⟨A₀, base, outer, B, hA⟩ := fm.below
    obtain ⟨name, params, dV, kV, doc, pm, an, cdv, ct, oc, od, osl, hK, hcd, hb⟩ := at_.ex
    have hVs : Vs.length = pn.length := by rw [← ea.length, hlen, hnp]
    have hdep := fm.depth
    have hun := fm.units
    have hkind := fm.kind
    obtain ⟨q0, f0, cdv0, rfl⟩ := fm.env_eq
    refine code_def B F fm.inK N fm.top hA rfl hkind hK hcd (by show A.depth < 1000; omega) (BindsTo.of_eq (hb Vs hVs)) (fun y hy => at_.loc _ (List.of_mem_zip hy).1) (fun g L' h₁ Fg F' N' B' X' T' => ?_) at_.co at_.gen at_.kind at_.cell
    have fm' : Fm C n' (A.deeper (envOf qual scope L' fa cdv)) scope (envOf qual scope L' fa cdv) ⟨g, h₀.X⟩ L' :=
      ⟨⟨_, _, _, rfl⟩, at_.kind, fm.handled, by show A.depth + 1 + n' ≤ 990; omega, by show A.units + 3 + 10 * n' ≤ 9000; omega, ⟨_, _, _, B', Around.frames_deeper hA⟩, X', T'⟩
    have S' : St C ⟨g, h₀.X⟩ L' ns' (vs ++ unbs nl) σ β { s with heap := h₁, toks := s.toks + (pn.zip Vs).length } := by
      refine ⟨_, news, F', N', Rl, fun i x hx => ?_, l.2⟩
      rw [get_append]
      by_cases hi : i < vs.length
      · rw [if_pos hi]
        right
        have hip : i < pn.length := by omega
        obtain ⟨r, rfl⟩ := hpre
        rw [List.getElem?_append_left hip] at hx
        obtain ⟨V, hV, he⟩ := ea.get (i := i) (a := vs[i]) (by simp [hi])
        refine ⟨V, lookup_zip at_.nd hx hV, ?_⟩
        have : vs.getD i .unb = vs[i] := by simp [List.getD, hi]
        rw [this]; exact he
      · rw [if_neg hi, get_unbs]; exact .inl rfl
    have back : ∀ v V ρ₂ σ₂ β₂ s₂, k v σ₂ = true → β <+: β₂ → EncV β₂ v V → Mv { s with heap := h₁, toks := s.toks + (pn.zip Vs).length } s₂ → St C ⟨g, h₀.X⟩ L' ns' ρ₂ σ₂ β₂ s₂ → LeaveK h₀.h L m g R V s₂ := by
      intro v V ρ₂ σ₂ β₂ s₂ hk p₂ e₂ m₂ S₂
      obtain ⟨m₂', news₂, F₂, N₂, R₂, l₂⟩ := S₂.ex
      exact leaveK_ F₂ N₂ fun F₃ N₃ => q _ _ _ _ _ hk p₂ e₂ ((Mv.to _ _ _).trans m₂) ⟨m, news₂, F₃, N₃, R₂, l.1.mono p₂, l₂.2⟩
    refine sb.go _ _ ⟨g, h₀.X⟩ L' fm' _ _ _ _ _ _ _ _ _ h S' ?_ ?_ ?_
    · intro ρ₂ σ₂ β₂ s₂ h₂ p₂ m₂ S₂
      exact back .none .none _ _ _ _ h₂ p₂ rfl m₂ S₂
    · intro ρ₂ σ₂ β₂ s₂ h₂
      cases h₂
    · intro v ρ₂ σ₂ β₂ V s₂ h₂ p₂ e₂ m₂ S₂
      exact back v V _ _ _ _ h₂ p₂ e₂ m₂ S₂⟩

theorem e_new (ok : CxOk C) {fI : Addr} {g : FD} {x : Str} {es : List PySem.Expr} {fs : List KE} {np pos : Pos} {n' : Nat} (sf : SndF C n' fI g) (hn : n' + 3 ≤ n) (sa : SndA C n scope ns es fs) (hne : es ≠ []) (hx : nsIn C.K mainGlobals x = some (some (.ref C.geo))) (hk : keepIn C.K (.ref C.geo) = true)
    (hi : findIn C.K (.ref C.geo) "__init__" = some (some (.ref fI))) (hf : isFn C.K (.ref fI) = true) (hl : scope.names.lookup x = some .globalImplicit) (hd : (x == ("__debug__" : Str)) = false) : SndE C n scope ns (.Call (.Name x np) es [] pos) (eNew g fs) :=
  ⟨fun A env h₀ L fm ρ σ β s k Q E h S q => wpAny_Call_NameR (nameG fm S hx hl hd (callWith_of (P := C.K.In) (by rw [sa.plain]; rfl) (fun h X => keeps_K hk h X) (args_go sa hne
    (sa.go A env h₀ L fm ρ σ β s _ _ E _ h S fun vs σ₁ β₁ Vs s₁ h₁ p₁ ea m₁ S₁ => ⟨S₁.inK fm.inK, by
      obtain ⟨m, news, F, N, R, l⟩ := S₁.ex
      refine call_cls F fm.inK N ok.makes hi hf fun xa dx h' F' N' hlt hdx => ?_
      have hdx' : ∀ p ∈ news ++ h₀.X, p.1 ≠ dx := fun p hp e => by have := hlt p hp; rw [e] at this; exact Nat.lt_irrefl _ this
      have hxa' : ∀ p ∈ news ++ h₀.X, p.1 ≠ xa := fun p hp e => by have := hlt p hp; rw [e] at this; exact Nat.lt_asymm this hdx
      have nin : ∀ y, (∀ p ∈ news ++ h₀.X, p.1 ≠ y) → y ∉ β₁ := fun y hy hm => by
        rw [← R.addrs] at hm
        obtain ⟨p, hp, e⟩ := List.mem_map.mp hm
        exact hy p (List.mem_append_left _ hp) e
      have R1 := R.push (x := dx) (o := dictOf [] 0) (mo := .flds 0 (unbs 14)) (nin dx hdx') ⟨[], 0, rfl, Nat.le_refl _, rfl, by simp, fun i y hy => by rw [get_unbs]; rfl⟩
      have hgd : (β₁ ++ [dx])[σ₁.n]? = some dx := by rw [← R.len]; simp
      have hx2 : xa ∉ β₁ ++ [dx] := fun hm => by
        rcases List.mem_append.mp hm with q | q
        · exact nin xa hxa' q
        · simp at q; exact absurd hdx (by rw [q]; exact Nat.lt_irrefl _)
      have R2 := R1.push (x := xa) (o := instObj C.geo dx) (mo := .inst σ₁.n) hx2 ⟨dx, getElem?_prefix (List.prefix_append _ _) hgd, rfl⟩
      have hgx : (β₁ ++ [dx] ++ [xa])[σ₁.n + 1]? = some xa := by
        have : (β₁ ++ [dx]).length = σ₁.n + 1 := by rw [← R.len]; simp
        rw [← this]; simp
      have S2 : St C h₀ L ns ρ ⟨σ₁.n + 2, (σ₁.t.set (.flds 0 (unbs 14)) σ₁.n).set (.inst σ₁.n) (σ₁.n + 1)⟩ (β₁ ++ [dx] ++ [xa]) { s₁ with heap := h' } := by
        refine ⟨m, _, F', fun p hp => ?_, R2, (l.1.mono (List.prefix_append _ _)).mono (List.prefix_append _ _), (l.2.push (fun p hp => hdx' p (List.mem_append_right _ hp))).push (fun p hp => hxa' p (List.mem_append_right _ hp))⟩
        rcases List.mem_append.mp hp with q | q
        · rcases List.mem_append.mp q with q | q
          · rcases List.mem_append.mp q with q | q
            · exact N' p (.tail _ (.tail _ (List.mem_append_left _ q)))
            · simp at q; subst q; exact N' _ (.tail _ (.head _))
          · simp at q; subst q; exact N' _ (.head _)
        · exact N' p (.tail _ (.tail _ (List.mem_append_right _ q)))
      have pp : β₁ <+: β₁ ++ [dx] ++ [xa] := by rw [List.append_assoc]; exact List.prefix_append _ _
      have hdep := fm.depth
      have hun := fm.units
      obtain ⟨A₀, base, outer, B, hA⟩ := fm.below
      have hw : (Code.builtin "type.__call__" ⟨.ref C.geo :: Vs, []⟩).weight = 1 := rfl
      have hcu : (Code.builtin "type.__call__" ⟨.ref C.geo :: Vs, []⟩).cUnits ≤ 3 := Nat.le_of_ble_eq_true rfl
      have fm' : Fm C n' (A.under (.builtin "type.__call__" ⟨.ref C.geo :: Vs, []⟩)) scope env h₀ L :=
        ⟨fm.env_eq, fm.kind, fm.handled, by show A.depth + 1 + n' ≤ 990; omega, by show A.units + (Code.builtin "type.__call__" ⟨.ref C.geo :: Vs, []⟩).cUnits + 10 * n' ≤ 9000; omega, ⟨A₀, base, outer, B, by exact hA⟩, fm.inK, fm.top⟩
      refine sf.go scope ns _ env h₀ L fm' ρ (.ref (σ₁.n + 1) :: vs) (.ref xa :: Vs) _ _ _ _ _ h₁ S2 (.cons ⟨xa, hgx, rfl⟩ (F2.imp (fun _ _ e => e.mono pp) ea)) ?_
      intro v σ' β' V s' hk p' e' m' S'
      obtain ⟨rfl, hk⟩ := asNone_true hk
      obtain rfl : V = .none := e'
      exact ⟨rfl, q _ _ _ _ _ hk (pre_trans p₁ (pre_trans pp p')) ⟨xa, getElem?_prefix p' hgx, rfl⟩ (m₁.trans ((Mv.heap _ _).trans m')) S'⟩⟩))))⟩
end
end Mine

namespace Mine
section
variable {C : Cx} {n : Nat} {scope : Scope} {ns : List Str}

theorem St.adopt {h₀ : Hx} {L : Addr} {ρ : MEnv} {σ : Hp} {β : List Addr} {s : Shared} (S : St C h₀ L ns ρ σ β s) {D : Addr} {o : Obj} {mo : MO} (f : Fre h₀ L β D) (ho : s.heap.get? D = some o) (he : EncO C (β ++ [D]) mo o) : St C h₀ L ns ρ ⟨σ.n + 1, σ.t.set mo σ.n⟩ (β ++ [D]) s := by
  obtain ⟨m, news, F, N, R, l⟩ := S.ex
  refine ⟨m, news ++ [(D, o)], F, fun p hp => ?_, R.push f.b he, l.1.mono (List.prefix_append _ _), l.2.push f.x⟩
  rcases List.mem_append.mp hp with q | q
  · rcases List.mem_append.mp q with q | q
    · exact N p (List.mem_append_left _ q)
    · simp at q; subst q; exact ⟨ho, f.l, f.h⟩
  · exact N p (List.mem_append_right _ q)

theorem ne_size {h : Heap} {a : Addr} {o : Obj} (e : h.get? a = some o) : a ≠ h.objs.size := Nat.ne_of_lt (Heap.lt_size e)

theorem s_emp (hnd : ns.Nodup) {i : Nat} {x y : Str} {px py lp cpos spos : Pos} {iter : PySem.Expr} {f : KE} {scope2 : Scope} (hy : ns[i]? = some y) (hl : scope.names.lookup y = some .local) (se : SndE C n scope ns iter f)
    (hsw : ∀ qual L fa cdv, swapsWith (.ListComp (.List [] lp) [⟨.Name x px, iter, [], 0⟩] scope2 cpos) (some (.Name y py)) spos.line (envOf qual scope L fa cdv) = pure true)
    (hs : ∀ env z, foldedSetIterable iter env z = pure z) (hfree : ∀ z ∈ scope2.names, z.2 ≠ .free) (hcell : ∀ z ∈ scope2.names, z.2 ≠ .cell) (hkind : scope2.kind = .function) (hnames : ∀ z ∈ scope2.names, z.2 = .local → scope2.names.lookup z.1 = some .local) (hx : scope2.names.lookup x = some .local) :
    SndS C n scope ns (.Assign [.Name y py] (.ListComp (.List [] lp) [⟨.Name x px, iter, [], 0⟩] scope2 cpos) spos) (sEmp i f) :=
  ⟨fun A env h₀ L fm ρ σ β s kn kc kr Q E h S qn qc qr => by
    have hsw' : swapsWith (.ListComp (.List [] lp) [⟨.Name x px, iter, [], 0⟩] scope2 cpos) (some (.Name y py)) spos.line env = pure true := by
      obtain ⟨_, _, _, rfl⟩ := fm.env_eq; exact hsw _ _ _ _
    rw [exec_Assign_Name_used _ _ _ _ hsw']
    refine wpAny_bind (wpAny_standAt (wpAny_bind ?_))
    show wpAny _ A (do let _ ← comprehension (.ListComp (.List [] lp) [⟨.Name x px, iter, [], 0⟩] scope2 cpos) scope2 env _ (newList []) false (eval iter env) (some (assign (.Name y py) env))) _ _ s
    refine wpAny_bind (wpAny_mono (wpAny_comprehension_use (Q := fun _ s' => Q .next s') rfl (hs env) hfree hkind hnames ?_) (fun _ s' hq => wpAny_pure (wpAny_pure hq)) fun _ _ e => e)
    refine se.go A env h₀ L fm ρ σ β s _ _ E h S fun v σ₁ β₁ V s₁ h₁ p₁ e₁ m₁ S₁ => ?_
    obtain ⟨r, rfl, h₂⟩ := asR_true (v := v) h₁
    obtain ⟨ob, ho, h₃⟩ := look_true (σ := σ₁) h₂
    obtain ⟨nl, t, rfl, h₄⟩ := asL_true (o := ob) h₃
    obtain ⟨hnl, h₅⟩ := cnd_true h₄
    rw [Nat.blt_eq] at hnl
    obtain ⟨l, hlx, rfl⟩ := e₁
    obtain ⟨ob, hob, items, ep, rfl, hsz, hmax, hi⟩ := S₁.get hlx ho
    refine wpAny_pyIter_list (items := items) ⟨_, hob, rfl, ep, rfl⟩ ?_
    refine wpAny_newObj_type (wpAny_newFunctionEnv hcell (by intro y hy; simp at hy) (fun h₁ hns₁ hsb₁ => ?_) hkind)
    dsimp only at hns₁ hsb₁ ⊢
    generalize hH1 : s₁.heap.push { cls := .type "list_iterator", dict := none, data := .fields #[.ref l, .int 0 0] } = H1 at hns₁ hsb₁ ⊢
    generalize hH2 : H1.push { cls := .type "list", dict := none, data := .seq ([] : List Value).toArray } = H2 at hns₁ hsb₁ ⊢
    have sz1 : H1.objs.size = s₁.heap.objs.size + 1 := by rw [← hH1, Heap.size_push]
    have sz2 : H2.objs.size = H1.objs.size + 1 := by rw [← hH2, Heap.size_push]
    have hID : s₁.heap.objs.size ≠ H1.objs.size := by rw [sz1]; exact Nat.ne_of_lt (Nat.lt_succ_self _)
    have hDC : H1.objs.size ≠ H2.objs.size := by rw [sz2]; exact Nat.ne_of_lt (Nat.lt_succ_self _)
    have hIC : s₁.heap.objs.size ≠ H2.objs.size := by rw [sz2, sz1]; exact Nat.ne_of_lt (Nat.lt_succ_of_lt (Nat.lt_succ_self _))
    have T1 : St C h₀ L ns ρ σ₁ β₁ { s₁ with heap := H1 } := S₁.keep (tk := s₁.toks) fun b o e => hH1 ▸ Heap.get?_push_of_some _ e
    have T2 : St C h₀ L ns ρ σ₁ β₁ { s₁ with heap := H2 } := T1.keep (tk := s₁.toks) fun b o e => hH2 ▸ Heap.get?_push_of_some _ e
    have fI := S₁.fre rfl
    have fD := T1.fre rfl
    have fC := T2.fre rfl
    have T3 : St C h₀ L ns ρ σ₁ β₁ { s₁ with heap := h₁, toks := s₁.toks + ([] : List (Str × Value)).length } := T2.but (tk := s₁.toks + ([] : List (Str × Value)).length) fC fun b o hb e => hsb₁.extBut b o hb (Heap.get?_push_of_some _ e)
    have old : ∀ b o, b ≠ H2.objs.size → H2.get? b = some o → h₁.get? b = some o := fun b o hb e => hsb₁.extBut b o hb (Heap.get?_push_of_some _ e)
    have hit₀ : h₁.IsListIter s₁.heap.objs.size l 0 := ⟨_, old _ _ hIC (hH2 ▸ Heap.get?_push_of_some _ (hH1 ▸ Heap.get?_push_size _ rfl)), rfl, rfl⟩
    have hacc₀ : h₁.PlainList H1.objs.size #[] := ⟨0, old _ _ hDC (hH2 ▸ Heap.get?_push_size _ rfl)⟩
    let K : List MV → Hp → Bool := fun vs σ => mallo (mkL vs) σ fun v σ => kn (ρ.set v i) σ
    have loop : ∀ s₃ : Shared, s₃ = { s₁ with heap := h₁, toks := s₁.toks + ([] : List (Str × Value)).length } →
        codeAny (model C.prog C.w) A (.compLoop (.ListComp (.List [] lp) [⟨.Name x px, iter, [], 0⟩] scope2 cpos) 0 (.ref s₁.heap.objs.size) (.ref H1.objs.size) (compEnv scope2 H2.objs.size env)) (fun r s' => match r with
          | .ok _ => wpAny (model C.prog C.w) A (assign (.Name y py) env (.ref H1.objs.size)) (fun _ s'' => ∃ m, s''.heap.Ns H2.objs.size m ∧ ∀ h', Heap.SameBut H2.objs.size s''.heap h' → Q .next { s'' with heap := h' }) E s'
          | .error x => ∃ m, s'.heap.Ns H2.objs.size m ∧ ∀ h', Heap.SameBut H2.objs.size s'.heap h' → wpAny (model C.prog C.w) A (passOn (α := Value) "comprehension.variables-let-go" x (compEnv scope2 H2.objs.size env)) (fun _ s' => Q .next s') E { s' with heap := h' }) s₃ := by
      rintro s₃ rfl
      refine codeAny_compLoop_tests (fun k s' => ∃ (refs : List MV) (σ' : Hp) (β' : List Addr) (j : Nat) (m' : Str → Option Value) (ys : Array Value), newEmpties k σ' (fun vs σ'' => K (refs ++ vs) σ'') = true ∧ St C h₀ L ns ρ σ' β' s' ∧ β₁ <+: β' ∧ Mv s s' ∧
        Fre h₀ L β' s₁.heap.objs.size ∧ Fre h₀ L β' H1.objs.size ∧ Fre h₀ L β' H2.objs.size ∧ s'.heap.IsListIter s₁.heap.objs.size l j ∧ j + k = nl ∧ s'.heap.PlainList H1.objs.size ys ∧ F2 (EncV β') refs ys.toList ∧ s'.heap.Ns H2.objs.size m' ∧ refs.length = j ∧ ∃ σq, σ'.t.get r = some (.list nl t) ∧ σq = σ') ?_ nl
        ⟨[], σ₁, β₁, 0, _, #[], h₅, T3, List.prefix_rfl', m₁.trans (Mv.to _ _ _), fI, fD, fC, hit₀, Nat.zero_add _, hacc₀, .nil, hns₁, rfl, _, ho, rfl⟩
      rintro k s' ⟨refs, σ', β', j, m', ys, hk, S', p', mv', gI, gD, gC, hit', hjk, hacc', hrefs, hns', hrl, _, hor, _⟩
      have hl' := getElem?_prefix p' hlx
      obtain ⟨ob', hob', items', ep', rfl, hsz', hmax', hi'⟩ := S'.get hl' hor
      have hL : s'.heap.IsList l items' := ⟨_, hob', rfl, ep', rfl⟩
      cases k with
      | zero =>
        refine wpAny_pyNext_list_end fm.handled hit' hL (by simp; omega) fun h' he => ?_
        replace hk : kn (ρ.set (.ref σ'.n) i) ⟨σ'.n + 1, σ'.t.set (mkL refs) σ'.n⟩ = true := by
          have : K (refs ++ []) σ' = true := hk
          rw [List.append_nil] at this
          exact this
        have S2 : St C h₀ L ns ρ σ' β' { s' with heap := h' } := S'.but (tk := s'.toks) gI fun b o hb e => he b o hb e
        obtain ⟨epD, hD⟩ := hacc'
        have hD' := he _ _ (Ne.symm hID) hD
        have eD : EncO C (β' ++ [H1.objs.size]) (mkL refs) (W.listOf ys epD) := by
          have z := enc_mkL (C := C) (F2.imp (fun _ _ e => e.mono (List.prefix_append β' [H1.objs.size])) hrefs) (by omega)
          obtain ⟨its, e0, q1, q2⟩ := z
          have : its = ys := by
            have := congrArg Obj.data q1
            simp at this
            exact this.1.symm
          subst this
          exact ⟨_, _, rfl, q2⟩
        have S3 := S2.adopt gD hD' eD
        obtain ⟨oC, esC, epC, hoC, hrest⟩ := hns'
        have hC' : h'.get? H2.objs.size = some oC := he _ _ (Ne.symm hIC) hoC
        have gC' : Fre h₀ L (β' ++ [H1.objs.size]) H2.objs.size := gC.push (Ne.symm hDC)
        have S4 := S3.addX gC' hC'
        refine wpAny_assign_Name (store (fm.withX _) hnd S4 hy hl (refAt S' H1.objs.size) fun s₅ m₅ S₅ => ?_)
        obtain ⟨S₆, a, b⟩ := S₅.dropX
        refine ⟨m', ⟨oC, esC, epC, a, hrest⟩, fun h'' hs'' => ?_⟩
        exact qn _ _ _ _ hk (pre_trans (pre_trans p₁ p') (List.prefix_append _ _)) (((mv'.trans (Mv.heap _ _)).trans m₅).trans (Mv.heap _ _)) (S₆.but (tk := s₅.toks) ⟨b, gC'.l, gC'.h, gC'.x⟩ fun b o hb e => hs''.extBut b o hb e)
      | succ k =>
        have hjlt : j < items'.size := by omega
        refine wpAny_pyNext_list_item hit' hL (x := items'[j]) (by simp [hjlt]) fun hA hitA hsA => ?_
        have SA : St C h₀ L ns ρ σ' β' { s' with heap := hA } := S'.but (tk := s'.toks) gI fun b o hb e => hsA.extBut b o hb e
        have hnsA : hA.Ns H2.objs.size m' := hns'.at' fun o e => hsA.extBut _ o (Ne.symm hIC) e
        refine wpAny_assign_Name (wpAny_storeName_local (env := compEnv scope2 H2.objs.size env) hx hnsA (fun hB hnsB hsB => ?_) (by show (scope2.kind == .class || (scope2.kind == .module && _)) = false; rw [hkind]; rfl))
        have SB : St C h₀ L ns ρ σ' β' { s' with heap := hB, toks := s'.toks + 1 } := SA.but (tk := s'.toks + 1) gC fun b o hb e => hsB.extBut b o hb e
        rw [List.forIn_nil]
        refine wpAny_pure ?_
        rw [if_pos rfl]
        refine wpAny_List (args_nil ⟨Nat.zero_le _, ?_⟩)
        have SC := SB.push (mo := .list 0 .nil) (o := { cls := .type "list", data := .seq ([] : List Value).toArray }) (tk := s'.toks + 1) ⟨#[], 0, rfl, rfl, Nat.zero_le _, fun i hi => absurd hi (Nat.not_lt_zero _)⟩ rfl
        obtain ⟨epD, hD⟩ := hacc'
        have hDB : hB.get? H1.objs.size = some (W.listOf ys epD) := hsB.extBut _ _ hDC (hsA.extBut _ _ (Ne.symm hID) hD)
        have hDC' := Heap.get?_push_of_some ({ cls := .type "list", data := .seq ([] : List Value).toArray } : Obj) hDB
        have gI2 : Fre h₀ L (β' ++ [hB.objs.size]) s₁.heap.objs.size := gI.push (by
          obtain ⟨o, ho, _⟩ := hitA
          exact ne_size (hsB.extBut _ _ hIC ho))
        have gD2 : Fre h₀ L (β' ++ [hB.objs.size]) H1.objs.size := gD.push (ne_size hDB)
        have gC2 : Fre h₀ L (β' ++ [hB.objs.size]) H2.objs.size := gC.push (by
          obtain ⟨o, _, _, ho, _⟩ := hnsB
          exact ne_size ho)
        have hszy : ys.size ≤ sizeLine := by
          have e3 := hrefs.length
          have e4 : ys.toList.length = ys.size := by simp
          rw [sizeLine_eq]; omega
        refine wpAny_list_append_plain (items := ys) ⟨epD, hDC'⟩ (fun hE hpE hsE => ?_) hszy
        refine ⟨k, Nat.lt_succ_self _, refs ++ [.ref σ'.n], ⟨σ'.n + 1, σ'.t.set (.list 0 .nil) σ'.n⟩, β' ++ [hB.objs.size], j + 1, (fun y => if y = x then some items'[j] else m' y), ys.push (.ref hB.objs.size), ?_, SC.but (tk := s'.toks + 1) gD2 fun b o hb e => hsE.extBut b o hb e, pre_trans p' (List.prefix_append _ _), ?_, gI2, gD2, gC2, ?_, by omega, hpE, ?_, ?_, by simp [hrl], _, ?_, rfl⟩
        · have hk' : newEmpties k ⟨σ'.n + 1, σ'.t.set (.list 0 .nil) σ'.n⟩ (fun vs σ'' => K (refs ++ (.ref σ'.n :: vs)) σ'') = true := hk
          have : (fun (vs : List MV) (σ'' : Hp) => K (refs ++ [.ref σ'.n] ++ vs) σ'') = fun vs σ'' => K (refs ++ (.ref σ'.n :: vs)) σ'' := by
            funext vs σ''; rw [List.append_assoc]; rfl
          rw [this]; exact hk'
        · exact mv'.trans (Mv.to _ _ _)
        · obtain ⟨o, ho, hr⟩ := hitA
          exact ⟨o, hsE.extBut _ _ hID (Heap.get?_push_of_some _ (hsB.extBut _ _ hIC ho)), hr⟩
        · rw [Array.toList_push]
          exact (F2.imp (fun _ _ e => e.mono (List.prefix_append _ _)) hrefs).snoc (refAt SB _)
        · obtain ⟨o, es, epn, ho, hr⟩ := hnsB
          exact ⟨o, es, epn, hsE.extBut _ _ (Ne.symm hDC) (Heap.get?_push_of_some _ ho), hr⟩
        · show (σ'.t.set (.list 0 .nil) σ'.n).get r = some (.list nl t)
          rw [Tr.get_set, if_neg]
          · exact hor
          · rintro rfl
            obtain ⟨m0, news0, F0, N0, R0, l0⟩ := S'.ex
            have := (List.getElem?_eq_some_iff.mp hl').1
            rw [R0.len] at this
            exact Nat.lt_irrefl _ this
    exact codeAny_compStart_list (loop _ rfl) (wpAny_pyIter_listiter hit₀ (loop _ rfl))⟩
end
end Mine

set_option maxRecDepth 100000

namespace Mine
def tops : List PySem.Stmt := PySem.Challenge.pw_sa0131_01.main.body
def bodyOf : Option PySem.Stmt → List PySem.Stmt
  | some (.FunctionDef _ _ b _ _ _ _ _ _ _) => b
  | _ => []
def scopeOf : Option PySem.Stmt → Scope
  | some (.FunctionDef _ _ _ _ _ _ sc _ _ _) => sc
  | _ => default
def inClass : Option PySem.Stmt → Option PySem.Stmt
  | some (.ClassDef _ _ _ b _ _ _ _ _ _ _) => b[0]?
  | _ => none
theorem e_globE {C : Cx} {n : Nat} {scope : Scope} {ns : List Str} {i : Int} {x : Str} {pos : Pos} (hx : ∃ t, nsIn C.K mainGlobals x = some (some (.int i t))) (hl : scope.names.lookup x = some .globalImplicit) (hd : (x == ("__debug__" : Str)) = false) : SndE C n scope ns (.Name x pos) (eInt i) := hx.elim fun _ h => e_glob h hl hd
theorem e_gsubE {C : Cx} {n : Nat} {scope : Scope} {ns : List Str} {x : Str} {i : PySem.Expr} {g : KE} {vs : List Int} {np pos : Pos} (hx : ∃ (a : Addr) (items : List Value), nsIn C.K mainGlobals x = some (some (.ref a)) ∧ C.K.lookup a = some { cls := .type "tuple", data := .seq items.toArray } ∧ IntsAre items vs ∧ items.length ≤ 1000)
    (hl : scope.names.lookup x = some .globalImplicit) (hd : (x == ("__debug__" : Str)) = false) (si : SndE C n scope ns i g) (hs : ∀ o j, subscripted i false o j = operate [o, j] (getItem o j)) : SndE C n scope ns (.Subscript (.Name x np) i pos) (eGsub vs g) := by
  obtain ⟨a, items, h1, h2, h3, h4⟩ := hx
  exact e_gsub h1 h2 h3 hl hd si hs h4
theorem t_notin {C : Cx} {n : Nat} {scope : Scope} {ns : List Str} {x : PySem.Expr} {es : List PySem.Expr} {f : KE} {fs : List KE} {kd : Nat} {tpos pos : Pos} (sx : SndE C n scope ns x f) (sa : SndA C n scope ns es fs) : SndT C n scope ns (.Compare x [.NotIn] [.Tuple es kd tpos] pos) (tAny (eIn true f fs)) :=
  ⟨fun A env h₀ L fm ρ σ β s k Q E whole _ h S q => wpAny_isTrue_Compare1 (hm := rfl) (sx.go A env h₀ L fm ρ σ β s _ _ E h S fun va σ₁ β₁ Va s₁ h₁ p₁ ea m₁ S₁ =>
    wpAny_Tuple (sa.go A env h₀ L fm ρ σ₁ β₁ s₁ _ _ E _ h₁ S₁ fun vs σ₂ β₂ Vs s₂ h₂ p₂ es m₂ S₂ => by
      obtain ⟨hl, h₂⟩ := cnd_true h₂
      rw [Nat.blt_eq, llen_eq] at hl
      obtain ⟨i, rfl, h₂⟩ := asI_true (v := va) h₂
      obtain ⟨t, rfl⟩ := ea
      obtain ⟨is, hi, hk⟩ := asInts_true es h₂
      refine ⟨by rw [← es.length, sizeLine_eq]; omega, notin_tuple_ints (items := Vs.toArray) (ns := is) ⟨_, Heap.get?_push_size _ rfl, rfl, _, rfl⟩ (by simpa using hi) (wpAny_truthy_bool ?_)⟩
      rw [← anyEq_eq]
      exact q _ _ _ _ hk (pre_trans p₁ p₂) ((m₁.trans m₂).trans (Mv.heap _ _)) (S₂.keep (tk := s₂.toks) fun b o e => Heap.get?_push_of_some _ e)))⟩
theorem t_in {C : Cx} {n : Nat} {scope : Scope} {ns : List Str} {x : PySem.Expr} {es : List PySem.Expr} {f : KE} {fs : List KE} {kd : Nat} {tpos pos : Pos} (sx : SndE C n scope ns x f) (sa : SndA C n scope ns es fs) : SndT C n scope ns (.Compare x [.In] [.Tuple es kd tpos] pos) (tAny (eIn false f fs)) :=
  ⟨fun A env h₀ L fm ρ σ β s k Q E whole _ h S q => wpAny_isTrue_Compare1 (hm := rfl) (sx.go A env h₀ L fm ρ σ β s _ _ E h S fun va σ₁ β₁ Va s₁ h₁ p₁ ea m₁ S₁ =>
    wpAny_Tuple (sa.go A env h₀ L fm ρ σ₁ β₁ s₁ _ _ E _ h₁ S₁ fun vs σ₂ β₂ Vs s₂ h₂ p₂ es m₂ S₂ => by
      obtain ⟨hl, h₂⟩ := cnd_true h₂
      rw [Nat.blt_eq, llen_eq] at hl
      obtain ⟨i, rfl, h₂⟩ := asI_true (v := va) h₂
      obtain ⟨t, rfl⟩ := ea
      obtain ⟨is, hi, hk⟩ := asInts_true es h₂
      refine ⟨by rw [← es.length, sizeLine_eq]; omega, in_tuple_ints (items := Vs.toArray) (ns := is) ⟨_, Heap.get?_push_size _ rfl, rfl, _, rfl⟩ (by simpa using hi) (wpAny_truthy_bool ?_)⟩
      rw [← anyEq_eq]
      exact q _ _ _ _ hk (pre_trans p₁ p₂) ((m₁.trans m₂).trans (Mv.heap _ _)) (S₂.keep (tk := s₂.toks) fun b o e => Heap.get?_push_of_some _ e)))⟩
def FnEx (K : Frag) (fa : Addr) (qual : Str) (body : List PySem.Stmt) (scope : Scope) (pn : List Str) : Prop :=
  ∃ (name : Str) (params : Arguments) (dV kV doc pm : Value) (an : Option Addr) (cdv ct oc : Value) (od : Option Addr) (osl : Array (Option Value)), K.lookup fa = some ⟨oc, od, .func (fnOf name qual params body scope dV kV doc pm an cdv ct), osl⟩ ∧ codeIn K cdv qual = true ∧
    ∀ Vs : List Value, Vs.length = pn.length → bindArgs (fnOf name qual params body scope dV kV doc pm an cdv ct) ⟨Vs, []⟩ = pure (pn.zip Vs)
def body_init : List PySem.Stmt := bodyOf (inClass tops[13]?)
def scope_init : Scope := scopeOf (inClass tops[13]?)
def ns_init : List Str := [Str.ofString "self", Str.ofString "files", Str.ofString "ranks", Str.ofString "has_double", Str.ofString "has_castling"]
theorem nd_init : ns_init.Nodup := by decide +kernel
theorem lk_init_self : scope_init.names.lookup (Str.ofString "self") = some .local := by decide +kernel
theorem lk_init_has_castling : scope_init.names.lookup (Str.ofString "has_castling") = some .local := by decide +kernel
theorem lk_init_has_double : scope_init.names.lookup (Str.ofString "has_double") = some .local := by decide +kernel
theorem lk_init_ranks : scope_init.names.lookup (Str.ofString "ranks") = some .local := by decide +kernel
theorem lk_init_files : scope_init.names.lookup (Str.ofString "files") = some .local := by decide +kernel
def body_is_growing : List PySem.Stmt := bodyOf tops[14]?
def scope_is_growing : Scope := scopeOf tops[14]?
def ns_is_growing : List Str := [Str.ofString "d"]
theorem nd_is_growing : ns_is_growing.Nodup := by decide +kernel
theorem lk_is_growing_STEP_RANKS : scope_is_growing.names.lookup (Str.ofString "STEP_RANKS") = some .globalImplicit := by decide +kernel
theorem lk_is_growing_d : scope_is_growing.names.lookup (Str.ofString "d") = some .local := by decide +kernel
def body_add_masks : List PySem.Stmt := bodyOf tops[15]?
def scope_add_masks : Scope := scopeOf tops[15]?
def ns_add_masks : List Str := [Str.ofString "geo", Str.ofString "row", Str.ofString "column", Str.ofString "r", Str.ofString "f"]
theorem nd_add_masks : ns_add_masks.Nodup := by decide +kernel
theorem lk_add_masks_f : scope_add_masks.names.lookup (Str.ofString "f") = some .local := by decide +kernel
theorem lk_add_masks_geo : scope_add_masks.names.lookup (Str.ofString "geo") = some .local := by decide +kernel
theorem lk_add_masks_range : scope_add_masks.names.lookup (Str.ofString "range") = some .globalImplicit := by decide +kernel
theorem lk_add_masks_column : scope_add_masks.names.lookup (Str.ofString "column") = some .local := by decide +kernel
theorem lk_add_masks_r : scope_add_masks.names.lookup (Str.ofString "r") = some .local := by decide +kernel
theorem lk_add_masks_row : scope_add_masks.names.lookup (Str.ofString "row") = some .local := by decide +kernel
def body_inner_squares : List PySem.Stmt := bodyOf tops[16]?
def scope_inner_squares : Scope := scopeOf tops[16]?
def ns_inner_squares : List Str := [Str.ofString "geo", Str.ofString "d", Str.ofString "edge"]
theorem nd_inner_squares : ns_inner_squares.Nodup := by decide +kernel
theorem lk_inner_squares_geo : scope_inner_squares.names.lookup (Str.ofString "geo") = some .local := by decide +kernel
theorem lk_inner_squares_edge : scope_inner_squares.names.lookup (Str.ofString "edge") = some .local := by decide +kernel
theorem lk_inner_squares_STEP_RANKS : scope_inner_squares.names.lookup (Str.ofString "STEP_RANKS") = some .globalImplicit := by decide +kernel
theorem lk_inner_squares_d : scope_inner_squares.names.lookup (Str.ofString "d") = some .local := by decide +kernel
theorem lk_inner_squares_STEP_FILES : scope_inner_squares.names.lookup (Str.ofString "STEP_FILES") = some .globalImplicit := by decide +kernel
def body_add_rays : List PySem.Stmt := bodyOf tops[17]?
def scope_add_rays : Scope := scopeOf tops[17]?
def ns_add_rays : List Str := [Str.ofString "geo", Str.ofString "d", Str.ofString "inner", Str.ofString "delta", Str.ofString "ray", Str.ofString "order", Str.ofString "square", Str.ofString "goal"]
theorem nd_add_rays : ns_add_rays.Nodup := by decide +kernel
theorem lk_add_rays_d : scope_add_rays.names.lookup (Str.ofString "d") = some .local := by decide +kernel
theorem lk_add_rays_range : scope_add_rays.names.lookup (Str.ofString "range") = some .globalImplicit := by decide +kernel
theorem lk_add_rays_geo : scope_add_rays.names.lookup (Str.ofString "geo") = some .local := by decide +kernel
theorem lk_add_rays_ray : scope_add_rays.names.lookup (Str.ofString "ray") = some .local := by decide +kernel
theorem lk_add_rays_square : scope_add_rays.names.lookup (Str.ofString "square") = some .local := by decide +kernel
theorem lk_add_rays_order : scope_add_rays.names.lookup (Str.ofString "order") = some .local := by decide +kernel
theorem lk_add_rays_inner : scope_add_rays.names.lookup (Str.ofString "inner") = some .local := by decide +kernel
theorem lk_add_rays_goal : scope_add_rays.names.lookup (Str.ofString "goal") = some .local := by decide +kernel
theorem lk_add_rays_delta : scope_add_rays.names.lookup (Str.ofString "delta") = some .local := by decide +kernel
theorem lk_add_rays_is_growing : scope_add_rays.names.lookup (Str.ofString "is_growing") = some .globalImplicit := by decide +kernel
theorem lk_add_rays_STEP_RANKS : scope_add_rays.names.lookup (Str.ofString "STEP_RANKS") = some .globalImplicit := by decide +kernel
theorem lk_add_rays_STEP_FILES : scope_add_rays.names.lookup (Str.ofString "STEP_FILES") = some .globalImplicit := by decide +kernel
theorem lk_add_rays_inner_squares : scope_add_rays.names.lookup (Str.ofString "inner_squares") = some .globalImplicit := by decide +kernel
def body_add_pawns : List PySem.Stmt := bodyOf tops[18]?
def scope_add_pawns : Scope := scopeOf tops[18]?
def ns_add_pawns : List Str := [Str.ofString "geo", Str.ofString "square"]
theorem nd_add_pawns : ns_add_pawns.Nodup := by decide +kernel
theorem lk_add_pawns_square : scope_add_pawns.names.lookup (Str.ofString "square") = some .local := by decide +kernel
theorem lk_add_pawns_geo : scope_add_pawns.names.lookup (Str.ofString "geo") = some .local := by decide +kernel
theorem lk_add_pawns_range : scope_add_pawns.names.lookup (Str.ofString "range") = some .globalImplicit := by decide +kernel
def body_add_knights : List PySem.Stmt := bodyOf tops[19]?
def scope_add_knights : Scope := scopeOf tops[19]?
def ns_add_knights : List Str := [Str.ofString "geo", Str.ofString "files", Str.ofString "not_first", Str.ofString "not_last", Str.ofString "not_first_two", Str.ofString "not_last_two", Str.ofString "square", Str.ofString "b", Str.ofString "near", Str.ofString "far", Str.ofString "found"]
theorem nd_add_knights : ns_add_knights.Nodup := by decide +kernel
theorem lk_add_knights_square : scope_add_knights.names.lookup (Str.ofString "square") = some .local := by decide +kernel
theorem lk_add_knights_geo : scope_add_knights.names.lookup (Str.ofString "geo") = some .local := by decide +kernel
theorem lk_add_knights_range : scope_add_knights.names.lookup (Str.ofString "range") = some .globalImplicit := by decide +kernel
theorem lk_add_knights_found : scope_add_knights.names.lookup (Str.ofString "found") = some .local := by decide +kernel
theorem lk_add_knights_near : scope_add_knights.names.lookup (Str.ofString "near") = some .local := by decide +kernel
theorem lk_add_knights_files : scope_add_knights.names.lookup (Str.ofString "files") = some .local := by decide +kernel
theorem lk_add_knights_far : scope_add_knights.names.lookup (Str.ofString "far") = some .local := by decide +kernel
theorem lk_add_knights_b : scope_add_knights.names.lookup (Str.ofString "b") = some .local := by decide +kernel
theorem lk_add_knights_not_first_two : scope_add_knights.names.lookup (Str.ofString "not_first_two") = some .local := by decide +kernel
theorem lk_add_knights_not_last_two : scope_add_knights.names.lookup (Str.ofString "not_last_two") = some .local := by decide +kernel
theorem lk_add_knights_not_first : scope_add_knights.names.lookup (Str.ofString "not_first") = some .local := by decide +kernel
theorem lk_add_knights_not_last : scope_add_knights.names.lookup (Str.ofString "not_last") = some .local := by decide +kernel
def body_add_castles : List PySem.Stmt := bodyOf tops[20]?
def scope_add_castles : Scope := scopeOf tops[20]?
def ns_add_castles : List Str := [Str.ofString "geo", Str.ofString "start", Str.ofString "index", Str.ofString "base", Str.ofString "corner", Str.ofString "way", Str.ofString "goal"]
theorem nd_add_castles : ns_add_castles.Nodup := by decide +kernel
theorem lk_add_castles_index : scope_add_castles.names.lookup (Str.ofString "index") = some .local := by decide +kernel
theorem lk_add_castles_range : scope_add_castles.names.lookup (Str.ofString "range") = some .globalImplicit := by decide +kernel
theorem lk_add_castles_geo : scope_add_castles.names.lookup (Str.ofString "geo") = some .local := by decide +kernel
theorem lk_add_castles_corner : scope_add_castles.names.lookup (Str.ofString "corner") = some .local := by decide +kernel
theorem lk_add_castles_goal : scope_add_castles.names.lookup (Str.ofString "goal") = some .local := by decide +kernel
theorem lk_add_castles_way : scope_add_castles.names.lookup (Str.ofString "way") = some .local := by decide +kernel
theorem lk_add_castles_base : scope_add_castles.names.lookup (Str.ofString "base") = some .local := by decide +kernel
theorem lk_add_castles_start : scope_add_castles.names.lookup (Str.ofString "start") = some .local := by decide +kernel
def body_make_geometry : List PySem.Stmt := bodyOf tops[21]?
def scope_make_geometry : Scope := scopeOf tops[21]?
def ns_make_geometry : List Str := [Str.ofString "files", Str.ofString "ranks", Str.ofString "has_double", Str.ofString "has_castling", Str.ofString "geo"]
theorem nd_make_geometry : ns_make_geometry.Nodup := by decide +kernel
theorem lk_make_geometry_geo : scope_make_geometry.names.lookup (Str.ofString "geo") = some .local := by decide +kernel
theorem lk_make_geometry_add_castles : scope_make_geometry.names.lookup (Str.ofString "add_castles") = some .globalImplicit := by decide +kernel
theorem lk_make_geometry_add_knights : scope_make_geometry.names.lookup (Str.ofString "add_knights") = some .globalImplicit := by decide +kernel
theorem lk_make_geometry_add_pawns : scope_make_geometry.names.lookup (Str.ofString "add_pawns") = some .globalImplicit := by decide +kernel
theorem lk_make_geometry_add_rays : scope_make_geometry.names.lookup (Str.ofString "add_rays") = some .globalImplicit := by decide +kernel
theorem lk_make_geometry_add_masks : scope_make_geometry.names.lookup (Str.ofString "add_masks") = some .globalImplicit := by decide +kernel
theorem lk_make_geometry_has_castling : scope_make_geometry.names.lookup (Str.ofString "has_castling") = some .local := by decide +kernel
theorem lk_make_geometry_has_double : scope_make_geometry.names.lookup (Str.ofString "has_double") = some .local := by decide +kernel
theorem lk_make_geometry_ranks : scope_make_geometry.names.lookup (Str.ofString "ranks") = some .local := by decide +kernel
theorem lk_make_geometry_files : scope_make_geometry.names.lookup (Str.ofString "files") = some .local := by decide +kernel
theorem lk_make_geometry_Geometry : scope_make_geometry.names.lookup (Str.ofString "Geometry") = some .globalImplicit := by decide +kernel
def body_ray_attacks : List PySem.Stmt := bodyOf tops[23]?
def scope_ray_attacks : Scope := scopeOf tops[23]?
def ns_ray_attacks : List Str := [Str.ofString "geo", Str.ofString "d", Str.ofString "square", Str.ofString "occupied", Str.ofString "ray", Str.ofString "stop", Str.ofString "behind"]
theorem nd_ray_attacks : ns_ray_attacks.Nodup := by decide +kernel
theorem lk_ray_attacks_ray : scope_ray_attacks.names.lookup (Str.ofString "ray") = some .local := by decide +kernel
theorem lk_ray_attacks_behind : scope_ray_attacks.names.lookup (Str.ofString "behind") = some .local := by decide +kernel
theorem lk_ray_attacks_stop : scope_ray_attacks.names.lookup (Str.ofString "stop") = some .local := by decide +kernel
theorem lk_ray_attacks_d : scope_ray_attacks.names.lookup (Str.ofString "d") = some .local := by decide +kernel
theorem lk_ray_attacks_is_growing : scope_ray_attacks.names.lookup (Str.ofString "is_growing") = some .globalImplicit := by decide +kernel
theorem lk_ray_attacks_occupied : scope_ray_attacks.names.lookup (Str.ofString "occupied") = some .local := by decide +kernel
theorem lk_ray_attacks_geo : scope_ray_attacks.names.lookup (Str.ofString "geo") = some .local := by decide +kernel
theorem lk_ray_attacks_square : scope_ray_attacks.names.lookup (Str.ofString "square") = some .local := by decide +kernel
def body_rook_attacks : List PySem.Stmt := bodyOf tops[24]?
def scope_rook_attacks : Scope := scopeOf tops[24]?
def ns_rook_attacks : List Str := [Str.ofString "geo", Str.ofString "square", Str.ofString "occupied", Str.ofString "found", Str.ofString "d"]
theorem nd_rook_attacks : ns_rook_attacks.Nodup := by decide +kernel
theorem lk_rook_attacks_found : scope_rook_attacks.names.lookup (Str.ofString "found") = some .local := by decide +kernel
theorem lk_rook_attacks_d : scope_rook_attacks.names.lookup (Str.ofString "d") = some .local := by decide +kernel
theorem lk_rook_attacks_range : scope_rook_attacks.names.lookup (Str.ofString "range") = some .globalImplicit := by decide +kernel
theorem lk_rook_attacks_occupied : scope_rook_attacks.names.lookup (Str.ofString "occupied") = some .local := by decide +kernel
theorem lk_rook_attacks_square : scope_rook_attacks.names.lookup (Str.ofString "square") = some .local := by decide +kernel
theorem lk_rook_attacks_geo : scope_rook_attacks.names.lookup (Str.ofString "geo") = some .local := by decide +kernel
theorem lk_rook_attacks_ray_attacks : scope_rook_attacks.names.lookup (Str.ofString "ray_attacks") = some .globalImplicit := by decide +kernel
def body_bishop_attacks : List PySem.Stmt := bodyOf tops[25]?
def scope_bishop_attacks : Scope := scopeOf tops[25]?
def ns_bishop_attacks : List Str := [Str.ofString "geo", Str.ofString "square", Str.ofString "occupied", Str.ofString "found", Str.ofString "d"]
theorem nd_bishop_attacks : ns_bishop_attacks.Nodup := by decide +kernel
theorem lk_bishop_attacks_found : scope_bishop_attacks.names.lookup (Str.ofString "found") = some .local := by decide +kernel
theorem lk_bishop_attacks_d : scope_bishop_attacks.names.lookup (Str.ofString "d") = some .local := by decide +kernel
theorem lk_bishop_attacks_range : scope_bishop_attacks.names.lookup (Str.ofString "range") = some .globalImplicit := by decide +kernel
theorem lk_bishop_attacks_occupied : scope_bishop_attacks.names.lookup (Str.ofString "occupied") = some .local := by decide +kernel
theorem lk_bishop_attacks_square : scope_bishop_attacks.names.lookup (Str.ofString "square") = some .local := by decide +kernel
theorem lk_bishop_attacks_geo : scope_bishop_attacks.names.lookup (Str.ofString "geo") = some .local := by decide +kernel
theorem lk_bishop_attacks_ray_attacks : scope_bishop_attacks.names.lookup (Str.ofString "ray_attacks") = some .globalImplicit := by decide +kernel
def body_queen_attacks : List PySem.Stmt := bodyOf tops[26]?
def scope_queen_attacks : Scope := scopeOf tops[26]?
def ns_queen_attacks : List Str := [Str.ofString "geo", Str.ofString "square", Str.ofString "occupied"]
theorem nd_queen_attacks : ns_queen_attacks.Nodup := by decide +kernel
theorem lk_queen_attacks_occupied : scope_queen_attacks.names.lookup (Str.ofString "occupied") = some .local := by decide +kernel
theorem lk_queen_attacks_square : scope_queen_attacks.names.lookup (Str.ofString "square") = some .local := by decide +kernel
theorem lk_queen_attacks_geo : scope_queen_attacks.names.lookup (Str.ofString "geo") = some .local := by decide +kernel
theorem lk_queen_attacks_rook_attacks : scope_queen_attacks.names.lookup (Str.ofString "rook_attacks") = some .globalImplicit := by decide +kernel
theorem lk_queen_attacks_bishop_attacks : scope_queen_attacks.names.lookup (Str.ofString "bishop_attacks") = some .globalImplicit := by decide +kernel
def body_slider_attacks : List PySem.Stmt := bodyOf tops[27]?
def scope_slider_attacks : Scope := scopeOf tops[27]?
def ns_slider_attacks : List Str := [Str.ofString "geo", Str.ofString "kind", Str.ofString "square", Str.ofString "occupied"]
theorem nd_slider_attacks : ns_slider_attacks.Nodup := by decide +kernel
theorem lk_slider_attacks_kind : scope_slider_attacks.names.lookup (Str.ofString "kind") = some .local := by decide +kernel
theorem lk_slider_attacks_QUEEN : scope_slider_attacks.names.lookup (Str.ofString "QUEEN") = some .globalImplicit := by decide +kernel
theorem lk_slider_attacks_occupied : scope_slider_attacks.names.lookup (Str.ofString "occupied") = some .local := by decide +kernel
theorem lk_slider_attacks_square : scope_slider_attacks.names.lookup (Str.ofString "square") = some .local := by decide +kernel
theorem lk_slider_attacks_geo : scope_slider_attacks.names.lookup (Str.ofString "geo") = some .local := by decide +kernel
theorem lk_slider_attacks_queen_attacks : scope_slider_attacks.names.lookup (Str.ofString "queen_attacks") = some .globalImplicit := by decide +kernel
theorem lk_slider_attacks_ROOK : scope_slider_attacks.names.lookup (Str.ofString "ROOK") = some .globalImplicit := by decide +kernel
theorem lk_slider_attacks_rook_attacks : scope_slider_attacks.names.lookup (Str.ofString "rook_attacks") = some .globalImplicit := by decide +kernel
theorem lk_slider_attacks_BISHOP : scope_slider_attacks.names.lookup (Str.ofString "BISHOP") = some .globalImplicit := by decide +kernel
theorem lk_slider_attacks_bishop_attacks : scope_slider_attacks.names.lookup (Str.ofString "bishop_attacks") = some .globalImplicit := by decide +kernel
def body_piece_attacks : List PySem.Stmt := bodyOf tops[28]?
def scope_piece_attacks : Scope := scopeOf tops[28]?
def ns_piece_attacks : List Str := [Str.ofString "geo", Str.ofString "side", Str.ofString "kind", Str.ofString "square", Str.ofString "occupied"]
theorem nd_piece_attacks : ns_piece_attacks.Nodup := by decide +kernel
theorem lk_piece_attacks_occupied : scope_piece_attacks.names.lookup (Str.ofString "occupied") = some .local := by decide +kernel
theorem lk_piece_attacks_square : scope_piece_attacks.names.lookup (Str.ofString "square") = some .local := by decide +kernel
theorem lk_piece_attacks_kind : scope_piece_attacks.names.lookup (Str.ofString "kind") = some .local := by decide +kernel
theorem lk_piece_attacks_geo : scope_piece_attacks.names.lookup (Str.ofString "geo") = some .local := by decide +kernel
theorem lk_piece_attacks_slider_attacks : scope_piece_attacks.names.lookup (Str.ofString "slider_attacks") = some .globalImplicit := by decide +kernel
theorem lk_piece_attacks_KING : scope_piece_attacks.names.lookup (Str.ofString "KING") = some .globalImplicit := by decide +kernel
theorem lk_piece_attacks_KNIGHT : scope_piece_attacks.names.lookup (Str.ofString "KNIGHT") = some .globalImplicit := by decide +kernel
theorem lk_piece_attacks_PAWN : scope_piece_attacks.names.lookup (Str.ofString "PAWN") = some .globalImplicit := by decide +kernel
theorem lk_piece_attacks_side : scope_piece_attacks.names.lookup (Str.ofString "side") = some .local := by decide +kernel
def body_solve : List PySem.Stmt := bodyOf tops[35]?
def scope_solve : Scope := scopeOf tops[35]?
def ns_solve : List Str := [Str.ofString "sides", Str.ofString "after", Str.ofString "lost", Str.ofString "values", Str.ofString "left", Str.ofString "before", Str.ofString "queue", Str.ofString "n", Str.ofString "m", Str.ofString "at"]
theorem nd_solve : ns_solve.Nodup := by decide +kernel
theorem lk_solve_values : scope_solve.names.lookup (Str.ofString "values") = some .local := by decide +kernel
theorem lk_solve_at : scope_solve.names.lookup (Str.ofString "at") = some .local := by decide +kernel
theorem lk_solve_queue : scope_solve.names.lookup (Str.ofString "queue") = some .local := by decide +kernel
theorem lk_solve_len : scope_solve.names.lookup (Str.ofString "len") = some .globalImplicit := by decide +kernel
theorem lk_solve_n : scope_solve.names.lookup (Str.ofString "n") = some .local := by decide +kernel
theorem lk_solve_before : scope_solve.names.lookup (Str.ofString "before") = some .local := by decide +kernel
theorem lk_solve_m : scope_solve.names.lookup (Str.ofString "m") = some .local := by decide +kernel
theorem lk_solve_NO_MATE : scope_solve.names.lookup (Str.ofString "NO_MATE") = some .globalImplicit := by decide +kernel
theorem lk_solve_sides : scope_solve.names.lookup (Str.ofString "sides") = some .local := by decide +kernel
theorem lk_solve_STRONG_MOVES : scope_solve.names.lookup (Str.ofString "STRONG_MOVES") = some .globalImplicit := by decide +kernel
theorem lk_solve_left : scope_solve.names.lookup (Str.ofString "left") = some .local := by decide +kernel
theorem lk_solve_after : scope_solve.names.lookup (Str.ofString "after") = some .local := by decide +kernel
theorem lk_solve_range : scope_solve.names.lookup (Str.ofString "range") = some .globalImplicit := by decide +kernel
theorem lk_solve_lost : scope_solve.names.lookup (Str.ofString "lost") = some .local := by decide +kernel
theorem lk_solve_OUTSIDE : scope_solve.names.lookup (Str.ofString "OUTSIDE") = some .globalImplicit := by decide +kernel
def body_index_of : List PySem.Stmt := bodyOf tops[36]?
def scope_index_of : Scope := scopeOf tops[36]?
def ns_index_of : List Str := [Str.ofString "size", Str.ofString "side", Str.ofString "strong", Str.ofString "piece", Str.ofString "weak"]
theorem nd_index_of : ns_index_of.Nodup := by decide +kernel
theorem lk_index_of_side : scope_index_of.names.lookup (Str.ofString "side") = some .local := by decide +kernel
theorem lk_index_of_size : scope_index_of.names.lookup (Str.ofString "size") = some .local := by decide +kernel
theorem lk_index_of_strong : scope_index_of.names.lookup (Str.ofString "strong") = some .local := by decide +kernel
theorem lk_index_of_piece : scope_index_of.names.lookup (Str.ofString "piece") = some .local := by decide +kernel
theorem lk_index_of_weak : scope_index_of.names.lookup (Str.ofString "weak") = some .local := by decide +kernel
def body_parts_of : List PySem.Stmt := bodyOf tops[37]?
def scope_parts_of : Scope := scopeOf tops[37]?
def ns_parts_of : List Str := [Str.ofString "size", Str.ofString "n"]
theorem nd_parts_of : ns_parts_of.Nodup := by decide +kernel
theorem lk_parts_of_n : scope_parts_of.names.lookup (Str.ofString "n") = some .local := by decide +kernel
theorem lk_parts_of_size : scope_parts_of.names.lookup (Str.ofString "size") = some .local := by decide +kernel
def body_mark_places : List PySem.Stmt := bodyOf tops[38]?
def scope_mark_places : Scope := scopeOf tops[38]?
def ns_mark_places : List Str := [Str.ofString "geo", Str.ofString "kind", Str.ofString "zone", Str.ofString "table", Str.ofString "size", Str.ofString "places", Str.ofString "strong", Str.ofString "piece", Str.ofString "free", Str.ofString "checked", Str.ofString "weak", Str.ofString "n"]
theorem nd_mark_places : ns_mark_places.Nodup := by decide +kernel
theorem lk_mark_places_places : scope_mark_places.names.lookup (Str.ofString "places") = some .local := by decide +kernel
theorem lk_mark_places_n : scope_mark_places.names.lookup (Str.ofString "n") = some .local := by decide +kernel
theorem lk_mark_places_table : scope_mark_places.names.lookup (Str.ofString "table") = some .local := by decide +kernel
theorem lk_mark_places_NO_MATE : scope_mark_places.names.lookup (Str.ofString "NO_MATE") = some .globalImplicit := by decide +kernel
theorem lk_mark_places_strong : scope_mark_places.names.lookup (Str.ofString "strong") = some .local := by decide +kernel
theorem lk_mark_places_size : scope_mark_places.names.lookup (Str.ofString "size") = some .local := by decide +kernel
theorem lk_mark_places_range : scope_mark_places.names.lookup (Str.ofString "range") = some .globalImplicit := by decide +kernel
theorem lk_mark_places_piece : scope_mark_places.names.lookup (Str.ofString "piece") = some .local := by decide +kernel
theorem lk_mark_places_weak : scope_mark_places.names.lookup (Str.ofString "weak") = some .local := by decide +kernel
theorem lk_mark_places_free : scope_mark_places.names.lookup (Str.ofString "free") = some .local := by decide +kernel
theorem lk_mark_places_checked : scope_mark_places.names.lookup (Str.ofString "checked") = some .local := by decide +kernel
theorem lk_mark_places_STRONG_MOVES : scope_mark_places.names.lookup (Str.ofString "STRONG_MOVES") = some .globalImplicit := by decide +kernel
theorem lk_mark_places_index_of : scope_mark_places.names.lookup (Str.ofString "index_of") = some .globalImplicit := by decide +kernel
theorem lk_mark_places_WEAK_MOVES : scope_mark_places.names.lookup (Str.ofString "WEAK_MOVES") = some .globalImplicit := by decide +kernel
theorem lk_mark_places_kind : scope_mark_places.names.lookup (Str.ofString "kind") = some .local := by decide +kernel
theorem lk_mark_places_WHITE : scope_mark_places.names.lookup (Str.ofString "WHITE") = some .globalImplicit := by decide +kernel
theorem lk_mark_places_geo : scope_mark_places.names.lookup (Str.ofString "geo") = some .local := by decide +kernel
theorem lk_mark_places_piece_attacks : scope_mark_places.names.lookup (Str.ofString "piece_attacks") = some .globalImplicit := by decide +kernel
theorem lk_mark_places_zone : scope_mark_places.names.lookup (Str.ofString "zone") = some .local := by decide +kernel
def body_weak_moves : List PySem.Stmt := bodyOf tops[39]?
def scope_weak_moves : Scope := scopeOf tops[39]?
def ns_weak_moves : List Str := [Str.ofString "geo", Str.ofString "table", Str.ofString "strong", Str.ofString "piece", Str.ofString "weak", Str.ofString "out", Str.ofString "steps", Str.ofString "goal", Str.ofString "place"]
theorem nd_weak_moves : ns_weak_moves.Nodup := by decide +kernel
theorem lk_weak_moves_out : scope_weak_moves.names.lookup (Str.ofString "out") = some .local := by decide +kernel
theorem lk_weak_moves_goal : scope_weak_moves.names.lookup (Str.ofString "goal") = some .local := by decide +kernel
theorem lk_weak_moves_geo : scope_weak_moves.names.lookup (Str.ofString "geo") = some .local := by decide +kernel
theorem lk_weak_moves_range : scope_weak_moves.names.lookup (Str.ofString "range") = some .globalImplicit := by decide +kernel
theorem lk_weak_moves_piece : scope_weak_moves.names.lookup (Str.ofString "piece") = some .local := by decide +kernel
theorem lk_weak_moves_strong : scope_weak_moves.names.lookup (Str.ofString "strong") = some .local := by decide +kernel
theorem lk_weak_moves_OUTSIDE : scope_weak_moves.names.lookup (Str.ofString "OUTSIDE") = some .globalImplicit := by decide +kernel
theorem lk_weak_moves_weak : scope_weak_moves.names.lookup (Str.ofString "weak") = some .local := by decide +kernel
theorem lk_weak_moves_table : scope_weak_moves.names.lookup (Str.ofString "table") = some .local := by decide +kernel
theorem lk_weak_moves_place : scope_weak_moves.names.lookup (Str.ofString "place") = some .local := by decide +kernel
theorem lk_weak_moves_NOT_A_PLACE : scope_weak_moves.names.lookup (Str.ofString "NOT_A_PLACE") = some .globalImplicit := by decide +kernel
theorem lk_weak_moves_STRONG_MOVES : scope_weak_moves.names.lookup (Str.ofString "STRONG_MOVES") = some .globalImplicit := by decide +kernel
theorem lk_weak_moves_index_of : scope_weak_moves.names.lookup (Str.ofString "index_of") = some .globalImplicit := by decide +kernel
theorem lk_weak_moves_steps : scope_weak_moves.names.lookup (Str.ofString "steps") = some .local := by decide +kernel
def body_strong_moves : List PySem.Stmt := bodyOf tops[40]?
def scope_strong_moves : Scope := scopeOf tops[40]?
def ns_strong_moves : List Str := [Str.ofString "geo", Str.ofString "table", Str.ofString "kind", Str.ofString "strong", Str.ofString "piece", Str.ofString "weak", Str.ofString "out", Str.ofString "steps", Str.ofString "slides", Str.ofString "goal", Str.ofString "place"]
theorem nd_strong_moves : ns_strong_moves.Nodup := by decide +kernel
theorem lk_strong_moves_out : scope_strong_moves.names.lookup (Str.ofString "out") = some .local := by decide +kernel
theorem lk_strong_moves_goal : scope_strong_moves.names.lookup (Str.ofString "goal") = some .local := by decide +kernel
theorem lk_strong_moves_geo : scope_strong_moves.names.lookup (Str.ofString "geo") = some .local := by decide +kernel
theorem lk_strong_moves_range : scope_strong_moves.names.lookup (Str.ofString "range") = some .globalImplicit := by decide +kernel
theorem lk_strong_moves_slides : scope_strong_moves.names.lookup (Str.ofString "slides") = some .local := by decide +kernel
theorem lk_strong_moves_table : scope_strong_moves.names.lookup (Str.ofString "table") = some .local := by decide +kernel
theorem lk_strong_moves_place : scope_strong_moves.names.lookup (Str.ofString "place") = some .local := by decide +kernel
theorem lk_strong_moves_NOT_A_PLACE : scope_strong_moves.names.lookup (Str.ofString "NOT_A_PLACE") = some .globalImplicit := by decide +kernel
theorem lk_strong_moves_piece : scope_strong_moves.names.lookup (Str.ofString "piece") = some .local := by decide +kernel
theorem lk_strong_moves_weak : scope_strong_moves.names.lookup (Str.ofString "weak") = some .local := by decide +kernel
theorem lk_strong_moves_strong : scope_strong_moves.names.lookup (Str.ofString "strong") = some .local := by decide +kernel
theorem lk_strong_moves_WEAK_MOVES : scope_strong_moves.names.lookup (Str.ofString "WEAK_MOVES") = some .globalImplicit := by decide +kernel
theorem lk_strong_moves_index_of : scope_strong_moves.names.lookup (Str.ofString "index_of") = some .globalImplicit := by decide +kernel
theorem lk_strong_moves_steps : scope_strong_moves.names.lookup (Str.ofString "steps") = some .local := by decide +kernel
theorem lk_strong_moves_kind : scope_strong_moves.names.lookup (Str.ofString "kind") = some .local := by decide +kernel
theorem lk_strong_moves_WHITE : scope_strong_moves.names.lookup (Str.ofString "WHITE") = some .globalImplicit := by decide +kernel
theorem lk_strong_moves_piece_attacks : scope_strong_moves.names.lookup (Str.ofString "piece_attacks") = some .globalImplicit := by decide +kernel
def body_moves_at : List PySem.Stmt := bodyOf tops[41]?
def scope_moves_at : Scope := scopeOf tops[41]?
def ns_moves_at : List Str := [Str.ofString "geo", Str.ofString "table", Str.ofString "kind", Str.ofString "side", Str.ofString "strong", Str.ofString "piece", Str.ofString "weak"]
theorem nd_moves_at : ns_moves_at.Nodup := by decide +kernel
theorem lk_moves_at_weak : scope_moves_at.names.lookup (Str.ofString "weak") = some .local := by decide +kernel
theorem lk_moves_at_piece : scope_moves_at.names.lookup (Str.ofString "piece") = some .local := by decide +kernel
theorem lk_moves_at_strong : scope_moves_at.names.lookup (Str.ofString "strong") = some .local := by decide +kernel
theorem lk_moves_at_kind : scope_moves_at.names.lookup (Str.ofString "kind") = some .local := by decide +kernel
theorem lk_moves_at_table : scope_moves_at.names.lookup (Str.ofString "table") = some .local := by decide +kernel
theorem lk_moves_at_geo : scope_moves_at.names.lookup (Str.ofString "geo") = some .local := by decide +kernel
theorem lk_moves_at_strong_moves : scope_moves_at.names.lookup (Str.ofString "strong_moves") = some .globalImplicit := by decide +kernel
theorem lk_moves_at_side : scope_moves_at.names.lookup (Str.ofString "side") = some .local := by decide +kernel
theorem lk_moves_at_WEAK_MOVES : scope_moves_at.names.lookup (Str.ofString "WEAK_MOVES") = some .globalImplicit := by decide +kernel
theorem lk_moves_at_weak_moves : scope_moves_at.names.lookup (Str.ofString "weak_moves") = some .globalImplicit := by decide +kernel
def body_build_zone : List PySem.Stmt := bodyOf tops[42]?
def scope_build_zone : Scope := scopeOf tops[42]?
def ns_build_zone : List Str := [Str.ofString "geo", Str.ofString "kind", Str.ofString "zone", Str.ofString "half", Str.ofString "table", Str.ofString "places", Str.ofString "where", Str.ofString "k", Str.ofString "sides", Str.ofString "after", Str.ofString "lost", Str.ofString "n", Str.ofString "side", Str.ofString "strong", Str.ofString "piece", Str.ofString "weak", Str.ofString "row", Str.ofString "origin", Str.ofString "goal", Str.ofString "place", Str.ofString "values"]
theorem nd_build_zone : ns_build_zone.Nodup := by decide +kernel
theorem lk_build_zone_table : scope_build_zone.names.lookup (Str.ofString "table") = some .local := by decide +kernel
theorem lk_build_zone_k : scope_build_zone.names.lookup (Str.ofString "k") = some .local := by decide +kernel
theorem lk_build_zone_places : scope_build_zone.names.lookup (Str.ofString "places") = some .local := by decide +kernel
theorem lk_build_zone_len : scope_build_zone.names.lookup (Str.ofString "len") = some .globalImplicit := by decide +kernel
theorem lk_build_zone_range : scope_build_zone.names.lookup (Str.ofString "range") = some .globalImplicit := by decide +kernel
theorem lk_build_zone_values : scope_build_zone.names.lookup (Str.ofString "values") = some .local := by decide +kernel
theorem lk_build_zone_lost : scope_build_zone.names.lookup (Str.ofString "lost") = some .local := by decide +kernel
theorem lk_build_zone_after : scope_build_zone.names.lookup (Str.ofString "after") = some .local := by decide +kernel
theorem lk_build_zone_sides : scope_build_zone.names.lookup (Str.ofString "sides") = some .local := by decide +kernel
theorem lk_build_zone_solve : scope_build_zone.names.lookup (Str.ofString "solve") = some .globalImplicit := by decide +kernel
theorem lk_build_zone_n : scope_build_zone.names.lookup (Str.ofString "n") = some .local := by decide +kernel
theorem lk_build_zone_side : scope_build_zone.names.lookup (Str.ofString "side") = some .local := by decide +kernel
theorem lk_build_zone_WEAK_MOVES : scope_build_zone.names.lookup (Str.ofString "WEAK_MOVES") = some .globalImplicit := by decide +kernel
theorem lk_build_zone_row : scope_build_zone.names.lookup (Str.ofString "row") = some .local := by decide +kernel
theorem lk_build_zone_half : scope_build_zone.names.lookup (Str.ofString "half") = some .local := by decide +kernel
theorem lk_build_zone_NOT_A_PLACE : scope_build_zone.names.lookup (Str.ofString "NOT_A_PLACE") = some .globalImplicit := by decide +kernel
theorem lk_build_zone_place : scope_build_zone.names.lookup (Str.ofString "place") = some .local := by decide +kernel
theorem lk_build_zone_goal : scope_build_zone.names.lookup (Str.ofString "goal") = some .local := by decide +kernel
theorem lk_build_zone_origin : scope_build_zone.names.lookup (Str.ofString "origin") = some .local := by decide +kernel
theorem lk_build_zone_weak : scope_build_zone.names.lookup (Str.ofString "weak") = some .local := by decide +kernel
theorem lk_build_zone_piece : scope_build_zone.names.lookup (Str.ofString "piece") = some .local := by decide +kernel
theorem lk_build_zone_strong : scope_build_zone.names.lookup (Str.ofString "strong") = some .local := by decide +kernel
theorem lk_build_zone_kind : scope_build_zone.names.lookup (Str.ofString "kind") = some .local := by decide +kernel
theorem lk_build_zone_geo : scope_build_zone.names.lookup (Str.ofString "geo") = some .local := by decide +kernel
theorem lk_build_zone_moves_at : scope_build_zone.names.lookup (Str.ofString "moves_at") = some .globalImplicit := by decide +kernel
theorem lk_build_zone_where : scope_build_zone.names.lookup (Str.ofString "where") = some .local := by decide +kernel
theorem lk_build_zone_parts_of : scope_build_zone.names.lookup (Str.ofString "parts_of") = some .globalImplicit := by decide +kernel
theorem lk_build_zone_OUTSIDE : scope_build_zone.names.lookup (Str.ofString "OUTSIDE") = some .globalImplicit := by decide +kernel
theorem lk_build_zone_zone : scope_build_zone.names.lookup (Str.ofString "zone") = some .local := by decide +kernel
theorem lk_build_zone_mark_places : scope_build_zone.names.lookup (Str.ofString "mark_places") = some .globalImplicit := by decide +kernel
theorem lk_build_zone_KNIGHT : scope_build_zone.names.lookup (Str.ofString "KNIGHT") = some .globalImplicit := by decide +kernel
theorem lk_build_zone_QUEEN : scope_build_zone.names.lookup (Str.ofString "QUEEN") = some .globalImplicit := by decide +kernel
def body_law_image : List PySem.Stmt := bodyOf tops[44]?
def scope_law_image : Scope := scopeOf tops[44]?
def ns_law_image : List Str := [Str.ofString "square", Str.ofString "turn", Str.ofString "files", Str.ofString "ranks"]
theorem nd_law_image : ns_law_image.Nodup := by decide +kernel
theorem lk_law_image_turn : scope_law_image.names.lookup (Str.ofString "turn") = some .local := by decide +kernel
theorem lk_law_image_files : scope_law_image.names.lookup (Str.ofString "files") = some .local := by decide +kernel
theorem lk_law_image_ranks : scope_law_image.names.lookup (Str.ofString "ranks") = some .local := by decide +kernel
theorem lk_law_image_square : scope_law_image.names.lookup (Str.ofString "square") = some .local := by decide +kernel
def body_law : List PySem.Stmt := bodyOf tops[45]?
def scope_law : Scope := scopeOf tops[45]?
def ns_law : List Str := [Str.ofString "script", Str.ofString "cells", Str.ofString "kind", Str.ofString "square", Str.ofString "turn", Str.ofString "table", Str.ofString "number", Str.ofString "side", Str.ofString "piece", Str.ofString "weak", Str.ofString "told", Str.ofString "image"]
theorem nd_law : ns_law.Nodup := by decide +kernel
theorem lk_law_number : scope_law.names.lookup (Str.ofString "number") = some .local := by decide +kernel
theorem lk_law_range : scope_law.names.lookup (Str.ofString "range") = some .globalImplicit := by decide +kernel
theorem lk_law_told : scope_law.names.lookup (Str.ofString "told") = some .local := by decide +kernel
theorem lk_law_NO_MATE : scope_law.names.lookup (Str.ofString "NO_MATE") = some .globalImplicit := by decide +kernel
theorem lk_law_NOT_A_PLACE : scope_law.names.lookup (Str.ofString "NOT_A_PLACE") = some .globalImplicit := by decide +kernel
theorem lk_law_side : scope_law.names.lookup (Str.ofString "side") = some .local := by decide +kernel
theorem lk_law_STRONG_MOVES : scope_law.names.lookup (Str.ofString "STRONG_MOVES") = some .globalImplicit := by decide +kernel
theorem lk_law_int : scope_law.names.lookup (Str.ofString "int") = some .globalImplicit := by decide +kernel
theorem lk_law_square : scope_law.names.lookup (Str.ofString "square") = some .local := by decide +kernel
theorem lk_law_weak : scope_law.names.lookup (Str.ofString "weak") = some .local := by decide +kernel
theorem lk_law_piece : scope_law.names.lookup (Str.ofString "piece") = some .local := by decide +kernel
theorem lk_law_table : scope_law.names.lookup (Str.ofString "table") = some .local := by decide +kernel
theorem lk_law_image : scope_law.names.lookup (Str.ofString "image") = some .local := by decide +kernel
theorem lk_law_turn : scope_law.names.lookup (Str.ofString "turn") = some .local := by decide +kernel
theorem lk_law__law_image : scope_law.names.lookup (Str.ofString "_law_image") = some .globalImplicit := by decide +kernel
theorem lk_law_index_of : scope_law.names.lookup (Str.ofString "index_of") = some .globalImplicit := by decide +kernel
theorem lk_law_kind : scope_law.names.lookup (Str.ofString "kind") = some .local := by decide +kernel
theorem lk_law_make_geometry : scope_law.names.lookup (Str.ofString "make_geometry") = some .globalImplicit := by decide +kernel
theorem lk_law_build_zone : scope_law.names.lookup (Str.ofString "build_zone") = some .globalImplicit := by decide +kernel
theorem nn_BISHOP : ((Str.ofString "BISHOP") == ("__debug__" : Str)) = false := by decide +kernel
theorem nn_Geometry : ((Str.ofString "Geometry") == ("__debug__" : Str)) = false := by decide +kernel
theorem nn_KING : ((Str.ofString "KING") == ("__debug__" : Str)) = false := by decide +kernel
theorem nn_KNIGHT : ((Str.ofString "KNIGHT") == ("__debug__" : Str)) = false := by decide +kernel
theorem nn_NOT_A_PLACE : ((Str.ofString "NOT_A_PLACE") == ("__debug__" : Str)) = false := by decide +kernel
theorem nn_NO_MATE : ((Str.ofString "NO_MATE") == ("__debug__" : Str)) = false := by decide +kernel
theorem nn_OUTSIDE : ((Str.ofString "OUTSIDE") == ("__debug__" : Str)) = false := by decide +kernel
theorem nn_PAWN : ((Str.ofString "PAWN") == ("__debug__" : Str)) = false := by decide +kernel
theorem nn_QUEEN : ((Str.ofString "QUEEN") == ("__debug__" : Str)) = false := by decide +kernel
theorem nn_ROOK : ((Str.ofString "ROOK") == ("__debug__" : Str)) = false := by decide +kernel
theorem nn_STEP_FILES : ((Str.ofString "STEP_FILES") == ("__debug__" : Str)) = false := by decide +kernel
theorem nn_STEP_RANKS : ((Str.ofString "STEP_RANKS") == ("__debug__" : Str)) = false := by decide +kernel
theorem nn_STRONG_MOVES : ((Str.ofString "STRONG_MOVES") == ("__debug__" : Str)) = false := by decide +kernel
theorem nn_WEAK_MOVES : ((Str.ofString "WEAK_MOVES") == ("__debug__" : Str)) = false := by decide +kernel
theorem nn_WHITE : ((Str.ofString "WHITE") == ("__debug__" : Str)) = false := by decide +kernel
theorem nn__law_image : ((Str.ofString "_law_image") == ("__debug__" : Str)) = false := by decide +kernel
theorem nn_add_castles : ((Str.ofString "add_castles") == ("__debug__" : Str)) = false := by decide +kernel
theorem nn_add_knights : ((Str.ofString "add_knights") == ("__debug__" : Str)) = false := by decide +kernel
theorem nn_add_masks : ((Str.ofString "add_masks") == ("__debug__" : Str)) = false := by decide +kernel
theorem nn_add_pawns : ((Str.ofString "add_pawns") == ("__debug__" : Str)) = false := by decide +kernel
theorem nn_add_rays : ((Str.ofString "add_rays") == ("__debug__" : Str)) = false := by decide +kernel
theorem nn_after : ((Str.ofString "after") == ("__debug__" : Str)) = false := by decide +kernel
theorem nn_at : ((Str.ofString "at") == ("__debug__" : Str)) = false := by decide +kernel
theorem nn_b : ((Str.ofString "b") == ("__debug__" : Str)) = false := by decide +kernel
theorem nn_base : ((Str.ofString "base") == ("__debug__" : Str)) = false := by decide +kernel
theorem nn_before : ((Str.ofString "before") == ("__debug__" : Str)) = false := by decide +kernel
theorem nn_behind : ((Str.ofString "behind") == ("__debug__" : Str)) = false := by decide +kernel
theorem nn_bishop_attacks : ((Str.ofString "bishop_attacks") == ("__debug__" : Str)) = false := by decide +kernel
theorem nn_build_zone : ((Str.ofString "build_zone") == ("__debug__" : Str)) = false := by decide +kernel
theorem nn_checked : ((Str.ofString "checked") == ("__debug__" : Str)) = false := by decide +kernel
theorem nn_column : ((Str.ofString "column") == ("__debug__" : Str)) = false := by decide +kernel
theorem nn_corner : ((Str.ofString "corner") == ("__debug__" : Str)) = false := by decide +kernel
theorem nn_d : ((Str.ofString "d") == ("__debug__" : Str)) = false := by decide +kernel
theorem nn_delta : ((Str.ofString "delta") == ("__debug__" : Str)) = false := by decide +kernel
theorem nn_edge : ((Str.ofString "edge") == ("__debug__" : Str)) = false := by decide +kernel
theorem nn_f : ((Str.ofString "f") == ("__debug__" : Str)) = false := by decide +kernel
theorem nn_far : ((Str.ofString "far") == ("__debug__" : Str)) = false := by decide +kernel
theorem nn_files : ((Str.ofString "files") == ("__debug__" : Str)) = false := by decide +kernel
theorem nn_found : ((Str.ofString "found") == ("__debug__" : Str)) = false := by decide +kernel
theorem nn_free : ((Str.ofString "free") == ("__debug__" : Str)) = false := by decide +kernel
theorem nn_geo : ((Str.ofString "geo") == ("__debug__" : Str)) = false := by decide +kernel
theorem nn_goal : ((Str.ofString "goal") == ("__debug__" : Str)) = false := by decide +kernel
theorem nn_half : ((Str.ofString "half") == ("__debug__" : Str)) = false := by decide +kernel
theorem nn_has_castling : ((Str.ofString "has_castling") == ("__debug__" : Str)) = false := by decide +kernel
theorem nn_has_double : ((Str.ofString "has_double") == ("__debug__" : Str)) = false := by decide +kernel
theorem nn_image : ((Str.ofString "image") == ("__debug__" : Str)) = false := by decide +kernel
theorem nn_index : ((Str.ofString "index") == ("__debug__" : Str)) = false := by decide +kernel
theorem nn_index_of : ((Str.ofString "index_of") == ("__debug__" : Str)) = false := by decide +kernel
theorem nn_inner : ((Str.ofString "inner") == ("__debug__" : Str)) = false := by decide +kernel
theorem nn_inner_squares : ((Str.ofString "inner_squares") == ("__debug__" : Str)) = false := by decide +kernel
theorem nn_int : ((Str.ofString "int") == ("__debug__" : Str)) = false := by decide +kernel
theorem nn_is_growing : ((Str.ofString "is_growing") == ("__debug__" : Str)) = false := by decide +kernel
theorem nn_k : ((Str.ofString "k") == ("__debug__" : Str)) = false := by decide +kernel
theorem nn_kind : ((Str.ofString "kind") == ("__debug__" : Str)) = false := by decide +kernel
theorem nn_left : ((Str.ofString "left") == ("__debug__" : Str)) = false := by decide +kernel
theorem nn_len : ((Str.ofString "len") == ("__debug__" : Str)) = false := by decide +kernel
theorem nn_lost : ((Str.ofString "lost") == ("__debug__" : Str)) = false := by decide +kernel
theorem nn_m : ((Str.ofString "m") == ("__debug__" : Str)) = false := by decide +kernel
theorem nn_make_geometry : ((Str.ofString "make_geometry") == ("__debug__" : Str)) = false := by decide +kernel
theorem nn_mark_places : ((Str.ofString "mark_places") == ("__debug__" : Str)) = false := by decide +kernel
theorem nn_moves_at : ((Str.ofString "moves_at") == ("__debug__" : Str)) = false := by decide +kernel
theorem nn_n : ((Str.ofString "n") == ("__debug__" : Str)) = false := by decide +kernel
theorem nn_near : ((Str.ofString "near") == ("__debug__" : Str)) = false := by decide +kernel
theorem nn_not_first : ((Str.ofString "not_first") == ("__debug__" : Str)) = false := by decide +kernel
theorem nn_not_first_two : ((Str.ofString "not_first_two") == ("__debug__" : Str)) = false := by decide +kernel
theorem nn_not_last : ((Str.ofString "not_last") == ("__debug__" : Str)) = false := by decide +kernel
theorem nn_not_last_two : ((Str.ofString "not_last_two") == ("__debug__" : Str)) = false := by decide +kernel
theorem nn_number : ((Str.ofString "number") == ("__debug__" : Str)) = false := by decide +kernel
theorem nn_occupied : ((Str.ofString "occupied") == ("__debug__" : Str)) = false := by decide +kernel
theorem nn_order : ((Str.ofString "order") == ("__debug__" : Str)) = false := by decide +kernel
theorem nn_origin : ((Str.ofString "origin") == ("__debug__" : Str)) = false := by decide +kernel
theorem nn_out : ((Str.ofString "out") == ("__debug__" : Str)) = false := by decide +kernel
theorem nn_parts_of : ((Str.ofString "parts_of") == ("__debug__" : Str)) = false := by decide +kernel
theorem nn_piece : ((Str.ofString "piece") == ("__debug__" : Str)) = false := by decide +kernel
theorem nn_piece_attacks : ((Str.ofString "piece_attacks") == ("__debug__" : Str)) = false := by decide +kernel
theorem nn_place : ((Str.ofString "place") == ("__debug__" : Str)) = false := by decide +kernel
theorem nn_places : ((Str.ofString "places") == ("__debug__" : Str)) = false := by decide +kernel
theorem nn_queen_attacks : ((Str.ofString "queen_attacks") == ("__debug__" : Str)) = false := by decide +kernel
theorem nn_queue : ((Str.ofString "queue") == ("__debug__" : Str)) = false := by decide +kernel
theorem nn_r : ((Str.ofString "r") == ("__debug__" : Str)) = false := by decide +kernel
theorem nn_range : ((Str.ofString "range") == ("__debug__" : Str)) = false := by decide +kernel
theorem nn_ranks : ((Str.ofString "ranks") == ("__debug__" : Str)) = false := by decide +kernel
theorem nn_ray : ((Str.ofString "ray") == ("__debug__" : Str)) = false := by decide +kernel
theorem nn_ray_attacks : ((Str.ofString "ray_attacks") == ("__debug__" : Str)) = false := by decide +kernel
theorem nn_rook_attacks : ((Str.ofString "rook_attacks") == ("__debug__" : Str)) = false := by decide +kernel
theorem nn_row : ((Str.ofString "row") == ("__debug__" : Str)) = false := by decide +kernel
theorem nn_self : ((Str.ofString "self") == ("__debug__" : Str)) = false := by decide +kernel
theorem nn_side : ((Str.ofString "side") == ("__debug__" : Str)) = false := by decide +kernel
theorem nn_sides : ((Str.ofString "sides") == ("__debug__" : Str)) = false := by decide +kernel
theorem nn_size : ((Str.ofString "size") == ("__debug__" : Str)) = false := by decide +kernel
theorem nn_slider_attacks : ((Str.ofString "slider_attacks") == ("__debug__" : Str)) = false := by decide +kernel
theorem nn_slides : ((Str.ofString "slides") == ("__debug__" : Str)) = false := by decide +kernel
theorem nn_solve : ((Str.ofString "solve") == ("__debug__" : Str)) = false := by decide +kernel
theorem nn_square : ((Str.ofString "square") == ("__debug__" : Str)) = false := by decide +kernel
theorem nn_start : ((Str.ofString "start") == ("__debug__" : Str)) = false := by decide +kernel
theorem nn_steps : ((Str.ofString "steps") == ("__debug__" : Str)) = false := by decide +kernel
theorem nn_stop : ((Str.ofString "stop") == ("__debug__" : Str)) = false := by decide +kernel
theorem nn_strong : ((Str.ofString "strong") == ("__debug__" : Str)) = false := by decide +kernel
theorem nn_strong_moves : ((Str.ofString "strong_moves") == ("__debug__" : Str)) = false := by decide +kernel
theorem nn_table : ((Str.ofString "table") == ("__debug__" : Str)) = false := by decide +kernel
theorem nn_told : ((Str.ofString "told") == ("__debug__" : Str)) = false := by decide +kernel
theorem nn_turn : ((Str.ofString "turn") == ("__debug__" : Str)) = false := by decide +kernel
theorem nn_values : ((Str.ofString "values") == ("__debug__" : Str)) = false := by decide +kernel
theorem nn_way : ((Str.ofString "way") == ("__debug__" : Str)) = false := by decide +kernel
theorem nn_weak : ((Str.ofString "weak") == ("__debug__" : Str)) = false := by decide +kernel
theorem nn_weak_moves : ((Str.ofString "weak_moves") == ("__debug__" : Str)) = false := by decide +kernel
theorem nn_where : ((Str.ofString "where") == ("__debug__" : Str)) = false := by decide +kernel
theorem nn_zone : ((Str.ofString "zone") == ("__debug__" : Str)) = false := by decide +kernel
structure Tab (K : Frag) (geo f_init f_is_growing f_add_masks f_inner_squares f_add_rays f_add_pawns f_add_knights f_add_castles f_make_geometry f_ray_attacks f_rook_attacks f_bishop_attacks f_queen_attacks f_slider_attacks f_piece_attacks f_solve f_index_of f_parts_of f_mark_places f_weak_moves f_strong_moves f_moves_at f_build_zone f_law_image : Addr) : Prop where
  g_BISHOP : ∃ t, nsIn K mainGlobals (Str.ofString "BISHOP") = some (some (.int (.ofNat 3) t))
  g_KING : ∃ t, nsIn K mainGlobals (Str.ofString "KING") = some (some (.int (.ofNat 6) t))
  g_KNIGHT : ∃ t, nsIn K mainGlobals (Str.ofString "KNIGHT") = some (some (.int (.ofNat 2) t))
  g_NOT_A_PLACE : ∃ t, nsIn K mainGlobals (Str.ofString "NOT_A_PLACE") = some (some (.int (.negSucc 1) t))
  g_NO_MATE : ∃ t, nsIn K mainGlobals (Str.ofString "NO_MATE") = some (some (.int (.negSucc 0) t))
  g_OUTSIDE : ∃ t, nsIn K mainGlobals (Str.ofString "OUTSIDE") = some (some (.int (.negSucc 0) t))
  g_PAWN : ∃ t, nsIn K mainGlobals (Str.ofString "PAWN") = some (some (.int (.ofNat 1) t))
  g_QUEEN : ∃ t, nsIn K mainGlobals (Str.ofString "QUEEN") = some (some (.int (.ofNat 5) t))
  g_ROOK : ∃ t, nsIn K mainGlobals (Str.ofString "ROOK") = some (some (.int (.ofNat 4) t))
  g_STRONG_MOVES : ∃ t, nsIn K mainGlobals (Str.ofString "STRONG_MOVES") = some (some (.int (.ofNat 0) t))
  g_WEAK_MOVES : ∃ t, nsIn K mainGlobals (Str.ofString "WEAK_MOVES") = some (some (.int (.ofNat 1) t))
  g_WHITE : ∃ t, nsIn K mainGlobals (Str.ofString "WHITE") = some (some (.int (.ofNat 0) t))
  g_STEP_FILES : ∃ (a : Addr) (items : List Value), nsIn K mainGlobals (Str.ofString "STEP_FILES") = some (some (.ref a)) ∧ K.lookup a = some { cls := .type "tuple", data := .seq items.toArray } ∧ IntsAre items [(.ofNat 0), (.ofNat 1), (.ofNat 0), (.negSucc 0), (.ofNat 1), (.ofNat 1), (.negSucc 0), (.negSucc 0)] ∧ items.length ≤ 1000
  g_STEP_RANKS : ∃ (a : Addr) (items : List Value), nsIn K mainGlobals (Str.ofString "STEP_RANKS") = some (some (.ref a)) ∧ K.lookup a = some { cls := .type "tuple", data := .seq items.toArray } ∧ IntsAre items [(.ofNat 1), (.ofNat 0), (.negSucc 0), (.ofNat 0), (.ofNat 1), (.negSucc 0), (.negSucc 0), (.ofNat 1)] ∧ items.length ≤ 1000
  b_len : nsIn K mainGlobals (Str.ofString "len") = some none
  b_range : nsIn K mainGlobals (Str.ofString "range") = some none
  b_int : nsIn K mainGlobals (Str.ofString "int") = some none
  g_Geometry : nsIn K mainGlobals (Str.ofString "Geometry") = some (some (.ref geo))
  k_Geometry : keepIn K (.ref geo) = true
  i_init : findIn K (.ref geo) "__init__" = some (some (.ref f_init))
  fn_init : isFn K (.ref f_init) = true
  at_init : FnEx K f_init (Str.ofString "Geometry.__init__") body_init scope_init [Str.ofString "self", Str.ofString "files", Str.ofString "ranks", Str.ofString "has_double", Str.ofString "has_castling"]
  fn_is_growing : nsIn K mainGlobals (Str.ofString "is_growing") = some (some (.ref f_is_growing))
  kp_is_growing : keepIn K (.ref f_is_growing) = true
  at_is_growing : FnEx K f_is_growing (Str.ofString "is_growing") body_is_growing scope_is_growing [Str.ofString "d"]
  fn_add_masks : nsIn K mainGlobals (Str.ofString "add_masks") = some (some (.ref f_add_masks))
  kp_add_masks : keepIn K (.ref f_add_masks) = true
  at_add_masks : FnEx K f_add_masks (Str.ofString "add_masks") body_add_masks scope_add_masks [Str.ofString "geo"]
  fn_inner_squares : nsIn K mainGlobals (Str.ofString "inner_squares") = some (some (.ref f_inner_squares))
  kp_inner_squares : keepIn K (.ref f_inner_squares) = true
  at_inner_squares : FnEx K f_inner_squares (Str.ofString "inner_squares") body_inner_squares scope_inner_squares [Str.ofString "geo", Str.ofString "d"]
  fn_add_rays : nsIn K mainGlobals (Str.ofString "add_rays") = some (some (.ref f_add_rays))
  kp_add_rays : keepIn K (.ref f_add_rays) = true
  at_add_rays : FnEx K f_add_rays (Str.ofString "add_rays") body_add_rays scope_add_rays [Str.ofString "geo"]
  fn_add_pawns : nsIn K mainGlobals (Str.ofString "add_pawns") = some (some (.ref f_add_pawns))
  kp_add_pawns : keepIn K (.ref f_add_pawns) = true
  at_add_pawns : FnEx K f_add_pawns (Str.ofString "add_pawns") body_add_pawns scope_add_pawns [Str.ofString "geo"]
  fn_add_knights : nsIn K mainGlobals (Str.ofString "add_knights") = some (some (.ref f_add_knights))
  kp_add_knights : keepIn K (.ref f_add_knights) = true
  at_add_knights : FnEx K f_add_knights (Str.ofString "add_knights") body_add_knights scope_add_knights [Str.ofString "geo"]
  fn_add_castles : nsIn K mainGlobals (Str.ofString "add_castles") = some (some (.ref f_add_castles))
  kp_add_castles : keepIn K (.ref f_add_castles) = true
  at_add_castles : FnEx K f_add_castles (Str.ofString "add_castles") body_add_castles scope_add_castles [Str.ofString "geo"]
  fn_make_geometry : nsIn K mainGlobals (Str.ofString "make_geometry") = some (some (.ref f_make_geometry))
  kp_make_geometry : keepIn K (.ref f_make_geometry) = true
  at_make_geometry : FnEx K f_make_geometry (Str.ofString "make_geometry") body_make_geometry scope_make_geometry [Str.ofString "files", Str.ofString "ranks", Str.ofString "has_double", Str.ofString "has_castling"]
  fn_ray_attacks : nsIn K mainGlobals (Str.ofString "ray_attacks") = some (some (.ref f_ray_attacks))
  kp_ray_attacks : keepIn K (.ref f_ray_attacks) = true
  at_ray_attacks : FnEx K f_ray_attacks (Str.ofString "ray_attacks") body_ray_attacks scope_ray_attacks [Str.ofString "geo", Str.ofString "d", Str.ofString "square", Str.ofString "occupied"]
  fn_rook_attacks : nsIn K mainGlobals (Str.ofString "rook_attacks") = some (some (.ref f_rook_attacks))
  kp_rook_attacks : keepIn K (.ref f_rook_attacks) = true
  at_rook_attacks : FnEx K f_rook_attacks (Str.ofString "rook_attacks") body_rook_attacks scope_rook_attacks [Str.ofString "geo", Str.ofString "square", Str.ofString "occupied"]
  fn_bishop_attacks : nsIn K mainGlobals (Str.ofString "bishop_attacks") = some (some (.ref f_bishop_attacks))
  kp_bishop_attacks : keepIn K (.ref f_bishop_attacks) = true
  at_bishop_attacks : FnEx K f_bishop_attacks (Str.ofString "bishop_attacks") body_bishop_attacks scope_bishop_attacks [Str.ofString "geo", Str.ofString "square", Str.ofString "occupied"]
  fn_queen_attacks : nsIn K mainGlobals (Str.ofString "queen_attacks") = some (some (.ref f_queen_attacks))
  kp_queen_attacks : keepIn K (.ref f_queen_attacks) = true
  at_queen_attacks : FnEx K f_queen_attacks (Str.ofString "queen_attacks") body_queen_attacks scope_queen_attacks [Str.ofString "geo", Str.ofString "square", Str.ofString "occupied"]
  fn_slider_attacks : nsIn K mainGlobals (Str.ofString "slider_attacks") = some (some (.ref f_slider_attacks))
  kp_slider_attacks : keepIn K (.ref f_slider_attacks) = true
  at_slider_attacks : FnEx K f_slider_attacks (Str.ofString "slider_attacks") body_slider_attacks scope_slider_attacks [Str.ofString "geo", Str.ofString "kind", Str.ofString "square", Str.ofString "occupied"]
  fn_piece_attacks : nsIn K mainGlobals (Str.ofString "piece_attacks") = some (some (.ref f_piece_attacks))
  kp_piece_attacks : keepIn K (.ref f_piece_attacks) = true
  at_piece_attacks : FnEx K f_piece_attacks (Str.ofString "piece_attacks") body_piece_attacks scope_piece_attacks [Str.ofString "geo", Str.ofString "side", Str.ofString "kind", Str.ofString "square", Str.ofString "occupied"]
  fn_solve : nsIn K mainGlobals (Str.ofString "solve") = some (some (.ref f_solve))
  kp_solve : keepIn K (.ref f_solve) = true
  at_solve : FnEx K f_solve (Str.ofString "solve") body_solve scope_solve [Str.ofString "sides", Str.ofString "after", Str.ofString "lost"]
  fn_index_of : nsIn K mainGlobals (Str.ofString "index_of") = some (some (.ref f_index_of))
  kp_index_of : keepIn K (.ref f_index_of) = true
  at_index_of : FnEx K f_index_of (Str.ofString "index_of") body_index_of scope_index_of [Str.ofString "size", Str.ofString "side", Str.ofString "strong", Str.ofString "piece", Str.ofString "weak"]
  fn_parts_of : nsIn K mainGlobals (Str.ofString "parts_of") = some (some (.ref f_parts_of))
  kp_parts_of : keepIn K (.ref f_parts_of) = true
  at_parts_of : FnEx K f_parts_of (Str.ofString "parts_of") body_parts_of scope_parts_of [Str.ofString "size", Str.ofString "n"]
  fn_mark_places : nsIn K mainGlobals (Str.ofString "mark_places") = some (some (.ref f_mark_places))
  kp_mark_places : keepIn K (.ref f_mark_places) = true
  at_mark_places : FnEx K f_mark_places (Str.ofString "mark_places") body_mark_places scope_mark_places [Str.ofString "geo", Str.ofString "kind", Str.ofString "zone", Str.ofString "table"]
  fn_weak_moves : nsIn K mainGlobals (Str.ofString "weak_moves") = some (some (.ref f_weak_moves))
  kp_weak_moves : keepIn K (.ref f_weak_moves) = true
  at_weak_moves : FnEx K f_weak_moves (Str.ofString "weak_moves") body_weak_moves scope_weak_moves [Str.ofString "geo", Str.ofString "table", Str.ofString "strong", Str.ofString "piece", Str.ofString "weak"]
  fn_strong_moves : nsIn K mainGlobals (Str.ofString "strong_moves") = some (some (.ref f_strong_moves))
  kp_strong_moves : keepIn K (.ref f_strong_moves) = true
  at_strong_moves : FnEx K f_strong_moves (Str.ofString "strong_moves") body_strong_moves scope_strong_moves [Str.ofString "geo", Str.ofString "table", Str.ofString "kind", Str.ofString "strong", Str.ofString "piece", Str.ofString "weak"]
  fn_moves_at : nsIn K mainGlobals (Str.ofString "moves_at") = some (some (.ref f_moves_at))
  kp_moves_at : keepIn K (.ref f_moves_at) = true
  at_moves_at : FnEx K f_moves_at (Str.ofString "moves_at") body_moves_at scope_moves_at [Str.ofString "geo", Str.ofString "table", Str.ofString "kind", Str.ofString "side", Str.ofString "strong", Str.ofString "piece", Str.ofString "weak"]
  fn_build_zone : nsIn K mainGlobals (Str.ofString "build_zone") = some (some (.ref f_build_zone))
  kp_build_zone : keepIn K (.ref f_build_zone) = true
  at_build_zone : FnEx K f_build_zone (Str.ofString "build_zone") body_build_zone scope_build_zone [Str.ofString "geo", Str.ofString "kind", Str.ofString "zone"]
  fn_law_image : nsIn K mainGlobals (Str.ofString "_law_image") = some (some (.ref f_law_image))
  kp_law_image : keepIn K (.ref f_law_image) = true
  at_law_image : FnEx K f_law_image (Str.ofString "_law_image") body_law_image scope_law_image [Str.ofString "square", Str.ofString "turn"]
section
variable {C : Cx} {f_init f_is_growing f_add_masks f_inner_squares f_add_rays f_add_pawns f_add_knights f_add_castles f_make_geometry f_ray_attacks f_rook_attacks f_bishop_attacks f_queen_attacks f_slider_attacks f_piece_attacks f_solve f_index_of f_parts_of f_mark_places f_weak_moves f_strong_moves f_moves_at f_build_zone f_law_image : Addr} (ok : CxOk C) (tb : Tab C.K C.geo f_init f_is_growing f_add_masks f_inner_squares f_add_rays f_add_pawns f_add_knights f_add_castles f_make_geometry f_ray_attacks f_rook_attacks f_bishop_attacks f_queen_attacks f_slider_attacks f_piece_attacks f_solve f_index_of f_parts_of f_mark_places f_weak_moves f_strong_moves f_moves_at f_build_zone f_law_image)
include ok tb
theorem sb_init : SndB C 0 scope_init ns_init body_init b_init :=
  (b_cons (s_attr ok (e_loc rfl lk_init_self nn_self) (e_loc rfl lk_init_files nn_files) rfl (fun _ _ => rfl))
   (b_cons (s_attr ok (e_loc rfl lk_init_self nn_self) (e_loc rfl lk_init_ranks nn_ranks) rfl (fun _ _ => rfl))
   (b_cons (s_attr ok (e_loc rfl lk_init_self nn_self) (e_bin sop_mul (e_loc rfl lk_init_files nn_files) (e_loc rfl lk_init_ranks nn_ranks)) rfl (fun _ _ => rfl))
   (b_cons (s_attr ok (e_loc rfl lk_init_self nn_self) (e_bin sop_sub (e_bin sop_shl e_int (e_bin sop_mul (e_loc rfl lk_init_files nn_files) (e_loc rfl lk_init_ranks nn_ranks))) e_int) rfl (fun _ _ => rfl))
   (b_cons (s_attr ok (e_loc rfl lk_init_self nn_self) (e_and (e_loc rfl lk_init_has_double nn_has_double) (e_and1 (e_cmp sc_ge (e_loc rfl lk_init_ranks nn_ranks) e_int rfl))) rfl (fun _ _ => rfl))
   (b_cons (s_attr ok (e_loc rfl lk_init_self nn_self) (e_loc rfl lk_init_has_castling nn_has_castling) rfl (fun _ _ => rfl))
   (b_cons (s_attr ok (e_loc rfl lk_init_self nn_self) (e_lst a_nil) rfl (fun _ _ => rfl))
   (b_cons (s_attr ok (e_loc rfl lk_init_self nn_self) (e_lst a_nil) rfl (fun _ _ => rfl))
   (b_cons (s_attr ok (e_loc rfl lk_init_self nn_self) (e_lst a_nil) rfl (fun _ _ => rfl))
   (b_cons (s_attr ok (e_loc rfl lk_init_self nn_self) (e_lst a_nil) rfl (fun _ _ => rfl))
   (b_cons (s_attr ok (e_loc rfl lk_init_self nn_self) (e_lst a_nil) rfl (fun _ _ => rfl))
   (b_cons (s_attr ok (e_loc rfl lk_init_self nn_self) (e_lst (a_cons (e_lst a_nil) (fun _ => rfl) (a_cons (e_lst a_nil) (fun _ => rfl) a_nil))) rfl (fun _ _ => rfl))
   (b_cons (s_attr ok (e_loc rfl lk_init_self nn_self) (e_lst a_nil) rfl (fun _ _ => rfl))
   (b_cons (s_attr ok (e_loc rfl lk_init_self nn_self) (e_lst a_nil) rfl (fun _ _ => rfl))
   b_nil))))))))))))))
theorem snd_init : SndF C 2 f_init d_init :=
  fn_sound (pn := [Str.ofString "self", Str.ofString "files", Str.ofString "ranks", Str.ofString "has_double", Str.ofString "has_castling"]) (ns' := ns_init) ⟨tb.at_init, rfl, rfl, rfl, (by decide +kernel), (by decide +kernel), (by decide +kernel)⟩ (by decide +kernel) rfl (sb_init ok tb) (by decide)
theorem sb_is_growing : SndB C 0 scope_is_growing ns_is_growing body_is_growing b_is_growing :=
  (b_cons (s_ret (e_or (e_cmp sc_gt (e_gsubE tb.g_STEP_RANKS lk_is_growing_STEP_RANKS nn_STEP_RANKS (e_loc rfl lk_is_growing_d nn_d) (fun _ _ => rfl)) e_int rfl) (e_and1 (e_cmp sc_eq (e_loc rfl lk_is_growing_d nn_d) e_int rfl))))
   b_nil)
theorem snd_is_growing : SndF C 2 f_is_growing d_is_growing :=
  fn_sound (pn := [Str.ofString "d"]) (ns' := ns_is_growing) ⟨tb.at_is_growing, rfl, rfl, rfl, (by decide +kernel), (by decide +kernel), (by decide +kernel)⟩ (by decide +kernel) rfl (sb_is_growing ok tb) (by decide)
theorem sb_add_masks : SndB C 0 scope_add_masks ns_add_masks body_add_masks b_add_masks :=
  (b_cons (s_asg nd_add_masks rfl lk_add_masks_row (e_bin sop_sub (e_bin sop_shl e_int (e_attr ok (e_loc rfl lk_add_masks_geo nn_geo) (fun _ => rfl) rfl)) e_int) (fun _ _ => rfl))
   (b_cons (s_asg nd_add_masks rfl lk_add_masks_column e_int (fun _ _ => rfl))
   (b_cons (s_forR nd_add_masks rfl lk_add_masks_r (e_rng1 (a_cons (e_attr ok (e_loc rfl lk_add_masks_geo nn_geo) (fun _ => rfl) rfl) (fun _ => rfl) a_nil) tb.b_range lk_add_masks_range) (fun _ _ => rfl) (b_cons (s_expr (e_app (e_attr ok (e_loc rfl lk_add_masks_geo nn_geo) (fun _ => rfl) rfl) (e_bin sop_shl (e_loc rfl lk_add_masks_row nn_row) (e_bin sop_mul (e_loc rfl lk_add_masks_r nn_r) (e_attr ok (e_loc rfl lk_add_masks_geo nn_geo) (fun _ => rfl) rfl))) (fun _ => rfl) (fun _ => rfl) rfl) (fun _ _ => rfl))
   (b_cons (s_aug nd_add_masks rfl lk_add_masks_column sop_or (e_bin sop_shl e_int (e_bin sop_mul (e_loc rfl lk_add_masks_r nn_r) (e_attr ok (e_loc rfl lk_add_masks_geo nn_geo) (fun _ => rfl) rfl))))
   b_nil)))
   (b_cons (s_forR nd_add_masks rfl lk_add_masks_f (e_rng1 (a_cons (e_attr ok (e_loc rfl lk_add_masks_geo nn_geo) (fun _ => rfl) rfl) (fun _ => rfl) a_nil) tb.b_range lk_add_masks_range) (fun _ _ => rfl) (b_cons (s_expr (e_app (e_attr ok (e_loc rfl lk_add_masks_geo nn_geo) (fun _ => rfl) rfl) (e_bin sop_shl (e_loc rfl lk_add_masks_column nn_column) (e_loc rfl lk_add_masks_f nn_f)) (fun _ => rfl) (fun _ => rfl) rfl) (fun _ _ => rfl))
   b_nil))
   b_nil))))
theorem snd_add_masks : SndF C 2 f_add_masks d_add_masks :=
  fn_sound (pn := [Str.ofString "geo"]) (ns' := ns_add_masks) ⟨tb.at_add_masks, rfl, rfl, rfl, (by decide +kernel), (by decide +kernel), (by decide +kernel)⟩ (by decide +kernel) rfl (sb_add_masks ok tb) (by decide)
theorem sb_inner_squares : SndB C 0 scope_inner_squares ns_inner_squares body_inner_squares b_inner_squares :=
  (b_cons (s_asg nd_inner_squares rfl lk_inner_squares_edge e_int (fun _ _ => rfl))
   (b_cons (s_if (t_cmp sc_gt (e_gsubE tb.g_STEP_FILES lk_inner_squares_STEP_FILES nn_STEP_FILES (e_loc rfl lk_inner_squares_d nn_d) (fun _ _ => rfl)) e_int rfl) (b_cons (s_aug nd_inner_squares rfl lk_inner_squares_edge sop_or (e_subL (e_attr ok (e_loc rfl lk_inner_squares_geo nn_geo) (fun _ => rfl) rfl) (e_bin sop_sub (e_attr ok (e_loc rfl lk_inner_squares_geo nn_geo) (fun _ => rfl) rfl) e_int) (fun _ _ => rfl)))
   b_nil) b_nil)
   (b_cons (s_if (t_cmp sc_lt (e_gsubE tb.g_STEP_FILES lk_inner_squares_STEP_FILES nn_STEP_FILES (e_loc rfl lk_inner_squares_d nn_d) (fun _ _ => rfl)) e_int rfl) (b_cons (s_aug nd_inner_squares rfl lk_inner_squares_edge sop_or (e_subL (e_attr ok (e_loc rfl lk_inner_squares_geo nn_geo) (fun _ => rfl) rfl) e_int (fun _ _ => rfl)))
   b_nil) b_nil)
   (b_cons (s_if (t_cmp sc_gt (e_gsubE tb.g_STEP_RANKS lk_inner_squares_STEP_RANKS nn_STEP_RANKS (e_loc rfl lk_inner_squares_d nn_d) (fun _ _ => rfl)) e_int rfl) (b_cons (s_aug nd_inner_squares rfl lk_inner_squares_edge sop_or (e_subL (e_attr ok (e_loc rfl lk_inner_squares_geo nn_geo) (fun _ => rfl) rfl) (e_bin sop_sub (e_attr ok (e_loc rfl lk_inner_squares_geo nn_geo) (fun _ => rfl) rfl) e_int) (fun _ _ => rfl)))
   b_nil) b_nil)
   (b_cons (s_if (t_cmp sc_lt (e_gsubE tb.g_STEP_RANKS lk_inner_squares_STEP_RANKS nn_STEP_RANKS (e_loc rfl lk_inner_squares_d nn_d) (fun _ _ => rfl)) e_int rfl) (b_cons (s_aug nd_inner_squares rfl lk_inner_squares_edge sop_or (e_subL (e_attr ok (e_loc rfl lk_inner_squares_geo nn_geo) (fun _ => rfl) rfl) e_int (fun _ _ => rfl)))
   b_nil) b_nil)
   (b_cons (s_ret (e_bin sop_and (e_attr ok (e_loc rfl lk_inner_squares_geo nn_geo) (fun _ => rfl) rfl) (e_inv (e_loc rfl lk_inner_squares_edge nn_edge))))
   b_nil))))))
theorem snd_inner_squares : SndF C 2 f_inner_squares d_inner_squares :=
  fn_sound (pn := [Str.ofString "geo", Str.ofString "d"]) (ns' := ns_inner_squares) ⟨tb.at_inner_squares, rfl, rfl, rfl, (by decide +kernel), (by decide +kernel), (by decide +kernel)⟩ (by decide +kernel) rfl (sb_inner_squares ok tb) (by decide)
theorem sb_add_rays : SndB C 2 scope_add_rays ns_add_rays body_add_rays b_add_rays :=
  (b_cons (s_attr ok (e_loc rfl lk_add_rays_geo nn_geo) (e_rep (e_lst (a_cons e_int (fun _ => rfl) a_nil)) (e_attr ok (e_loc rfl lk_add_rays_geo nn_geo) (fun _ => rfl) rfl)) rfl (fun _ _ => rfl))
   (b_cons (s_forR nd_add_rays rfl lk_add_rays_d (e_rng1 (a_cons e_int (fun _ => rfl) a_nil) tb.b_range lk_add_rays_range) (fun _ _ => rfl) (b_cons (s_asg nd_add_rays rfl lk_add_rays_inner (e_call (snd_inner_squares ok tb) (by decide) (a_cons (e_loc rfl lk_add_rays_geo nn_geo) (fun _ => rfl) (a_cons (e_loc rfl lk_add_rays_d nn_d) (fun _ => rfl) a_nil)) nofun tb.fn_inner_squares tb.kp_inner_squares lk_add_rays_inner_squares nn_inner_squares) (fun _ _ => rfl))
   (b_cons (s_asg nd_add_rays rfl lk_add_rays_delta (e_bin sop_add (e_bin sop_mul (e_gsubE tb.g_STEP_RANKS lk_add_rays_STEP_RANKS nn_STEP_RANKS (e_loc rfl lk_add_rays_d nn_d) (fun _ _ => rfl)) (e_attr ok (e_loc rfl lk_add_rays_geo nn_geo) (fun _ => rfl) rfl)) (e_gsubE tb.g_STEP_FILES lk_add_rays_STEP_FILES nn_STEP_FILES (e_loc rfl lk_add_rays_d nn_d) (fun _ _ => rfl))) (fun _ _ => rfl))
   (b_cons (s_asg nd_add_rays rfl lk_add_rays_ray (e_rep (e_lst (a_cons e_int (fun _ => rfl) a_nil)) (e_attr ok (e_loc rfl lk_add_rays_geo nn_geo) (fun _ => rfl) rfl)) (fun _ _ => rfl))
   (b_cons (s_asg nd_add_rays rfl lk_add_rays_order (e_rng1 (a_cons (e_attr ok (e_loc rfl lk_add_rays_geo nn_geo) (fun _ => rfl) rfl) (fun _ => rfl) a_nil) tb.b_range lk_add_rays_range) (fun _ _ => rfl))
   (b_cons (s_if (t_any (e_call (snd_is_growing ok tb) (by decide) (a_cons (e_loc rfl lk_add_rays_d nn_d) (fun _ => rfl) a_nil) nofun tb.fn_is_growing tb.kp_is_growing lk_add_rays_is_growing nn_is_growing) (fun _ _ => rfl)) (b_cons (s_asg nd_add_rays rfl lk_add_rays_order (e_rng3 (a_cons (e_bin sop_sub (e_attr ok (e_loc rfl lk_add_rays_geo nn_geo) (fun _ => rfl) rfl) e_int) (fun _ => rfl) (a_cons (e_neg e_int) (fun _ => rfl) (a_cons (e_neg e_int) (fun _ => rfl) a_nil))) tb.b_range lk_add_rays_range) (fun _ _ => rfl))
   b_nil) b_nil)
   (b_cons (s_forR nd_add_rays rfl lk_add_rays_square (e_loc rfl lk_add_rays_order nn_order) (fun _ _ => rfl) (b_cons (s_if (t_any (e_bin sop_and (e_bin sop_shr (e_loc rfl lk_add_rays_inner nn_inner) (e_loc rfl lk_add_rays_square nn_square)) e_int) (fun _ _ => rfl)) (b_cons (s_asg nd_add_rays rfl lk_add_rays_goal (e_bin sop_add (e_loc rfl lk_add_rays_square nn_square) (e_loc rfl lk_add_rays_delta nn_delta)) (fun _ _ => rfl))
   (b_cons (s_subL (e_loc rfl lk_add_rays_ray nn_ray) (e_loc rfl lk_add_rays_square nn_square) (e_bin sop_or (e_subL (e_loc rfl lk_add_rays_ray nn_ray) (e_loc rfl lk_add_rays_goal nn_goal) (fun _ _ => rfl)) (e_bin sop_shl e_int (e_loc rfl lk_add_rays_goal nn_goal))) (fun _ _ => rfl))
   (b_cons (s_augSub (e_attr ok (e_loc rfl lk_add_rays_geo nn_geo) (fun _ => rfl) rfl) (e_loc rfl lk_add_rays_square nn_square) sop_or (e_bin sop_shl e_int (e_loc rfl lk_add_rays_goal nn_goal)) (fun _ _ _ => rfl))
   b_nil))) b_nil)
   b_nil))
   (b_cons (s_expr (e_app (e_attr ok (e_loc rfl lk_add_rays_geo nn_geo) (fun _ => rfl) rfl) (e_loc rfl lk_add_rays_ray nn_ray) (fun _ => rfl) (fun _ => rfl) rfl) (fun _ _ => rfl))
   b_nil))))))))
   b_nil))
theorem snd_add_rays : SndF C 4 f_add_rays d_add_rays :=
  fn_sound (pn := [Str.ofString "geo"]) (ns' := ns_add_rays) ⟨tb.at_add_rays, rfl, rfl, rfl, (by decide +kernel), (by decide +kernel), (by decide +kernel)⟩ (by decide +kernel) rfl (sb_add_rays ok tb) (by decide)
theorem sb_add_pawns : SndB C 0 scope_add_pawns ns_add_pawns body_add_pawns b_add_pawns :=
  (b_cons (s_forR nd_add_pawns rfl lk_add_pawns_square (e_rng1 (a_cons (e_attr ok (e_loc rfl lk_add_pawns_geo nn_geo) (fun _ => rfl) rfl) (fun _ => rfl) a_nil) tb.b_range lk_add_pawns_range) (fun _ _ => rfl) (b_cons (s_expr (e_app (e_subL (e_attr ok (e_loc rfl lk_add_pawns_geo nn_geo) (fun _ => rfl) rfl) e_int (fun _ _ => rfl)) (e_bin sop_and (e_subL (e_attr ok (e_loc rfl lk_add_pawns_geo nn_geo) (fun _ => rfl) rfl) (e_loc rfl lk_add_pawns_square nn_square) (fun _ _ => rfl)) (e_bin sop_or (e_subL (e_subL (e_attr ok (e_loc rfl lk_add_pawns_geo nn_geo) (fun _ => rfl) rfl) e_int (fun _ _ => rfl)) (e_loc rfl lk_add_pawns_square nn_square) (fun _ _ => rfl)) (e_subL (e_subL (e_attr ok (e_loc rfl lk_add_pawns_geo nn_geo) (fun _ => rfl) rfl) e_int (fun _ _ => rfl)) (e_loc rfl lk_add_pawns_square nn_square) (fun _ _ => rfl)))) (fun _ => rfl) (fun _ => rfl) rfl) (fun _ _ => rfl))
   (b_cons (s_expr (e_app (e_subL (e_attr ok (e_loc rfl lk_add_pawns_geo nn_geo) (fun _ => rfl) rfl) e_int (fun _ _ => rfl)) (e_bin sop_and (e_subL (e_attr ok (e_loc rfl lk_add_pawns_geo nn_geo) (fun _ => rfl) rfl) (e_loc rfl lk_add_pawns_square nn_square) (fun _ _ => rfl)) (e_bin sop_or (e_subL (e_subL (e_attr ok (e_loc rfl lk_add_pawns_geo nn_geo) (fun _ => rfl) rfl) e_int (fun _ _ => rfl)) (e_loc rfl lk_add_pawns_square nn_square) (fun _ _ => rfl)) (e_subL (e_subL (e_attr ok (e_loc rfl lk_add_pawns_geo nn_geo) (fun _ => rfl) rfl) e_int (fun _ _ => rfl)) (e_loc rfl lk_add_pawns_square nn_square) (fun _ _ => rfl)))) (fun _ => rfl) (fun _ => rfl) rfl) (fun _ _ => rfl))
   b_nil)))
   b_nil)
theorem snd_add_pawns : SndF C 2 f_add_pawns d_add_pawns :=
  fn_sound (pn := [Str.ofString "geo"]) (ns' := ns_add_pawns) ⟨tb.at_add_pawns, rfl, rfl, rfl, (by decide +kernel), (by decide +kernel), (by decide +kernel)⟩ (by decide +kernel) rfl (sb_add_pawns ok tb) (by decide)
theorem sb_add_knights : SndB C 0 scope_add_knights ns_add_knights body_add_knights b_add_knights :=
  (b_cons (s_asg nd_add_knights rfl lk_add_knights_files (e_attr ok (e_loc rfl lk_add_knights_geo nn_geo) (fun _ => rfl) rfl) (fun _ _ => rfl))
   (b_cons (s_asg nd_add_knights rfl lk_add_knights_not_first (e_bin sop_and (e_attr ok (e_loc rfl lk_add_knights_geo nn_geo) (fun _ => rfl) rfl) (e_inv (e_subL (e_attr ok (e_loc rfl lk_add_knights_geo nn_geo) (fun _ => rfl) rfl) e_int (fun _ _ => rfl)))) (fun _ _ => rfl))
   (b_cons (s_asg nd_add_knights rfl lk_add_knights_not_last (e_bin sop_and (e_attr ok (e_loc rfl lk_add_knights_geo nn_geo) (fun _ => rfl) rfl) (e_inv (e_subL (e_attr ok (e_loc rfl lk_add_knights_geo nn_geo) (fun _ => rfl) rfl) (e_bin sop_sub (e_loc rfl lk_add_knights_files nn_files) e_int) (fun _ _ => rfl)))) (fun _ _ => rfl))
   (b_cons (s_asg nd_add_knights rfl lk_add_knights_not_first_two (e_bin sop_and (e_loc rfl lk_add_knights_not_first nn_not_first) (e_inv (e_subL (e_attr ok (e_loc rfl lk_add_knights_geo nn_geo) (fun _ => rfl) rfl) e_int (fun _ _ => rfl)))) (fun _ _ => rfl))
   (b_cons (s_asg nd_add_knights rfl lk_add_knights_not_last_two (e_bin sop_and (e_loc rfl lk_add_knights_not_last nn_not_last) (e_inv (e_subL (e_attr ok (e_loc rfl lk_add_knights_geo nn_geo) (fun _ => rfl) rfl) (e_bin sop_sub (e_loc rfl lk_add_knights_files nn_files) e_int) (fun _ _ => rfl)))) (fun _ _ => rfl))
   (b_cons (s_forR nd_add_knights rfl lk_add_knights_square (e_rng1 (a_cons (e_attr ok (e_loc rfl lk_add_knights_geo nn_geo) (fun _ => rfl) rfl) (fun _ => rfl) a_nil) tb.b_range lk_add_knights_range) (fun _ _ => rfl) (b_cons (s_asg nd_add_knights rfl lk_add_knights_b (e_bin sop_shl e_int (e_loc rfl lk_add_knights_square nn_square)) (fun _ _ => rfl))
   (b_cons (s_asg nd_add_knights rfl lk_add_knights_near (e_bin sop_or (e_bin sop_and (e_bin sop_shl (e_loc rfl lk_add_knights_b nn_b) e_int) (e_loc rfl lk_add_knights_not_first nn_not_first)) (e_bin sop_and (e_bin sop_shr (e_loc rfl lk_add_knights_b nn_b) e_int) (e_loc rfl lk_add_knights_not_last nn_not_last))) (fun _ _ => rfl))
   (b_cons (s_asg nd_add_knights rfl lk_add_knights_far (e_bin sop_or (e_bin sop_and (e_bin sop_shl (e_loc rfl lk_add_knights_b nn_b) e_int) (e_loc rfl lk_add_knights_not_first_two nn_not_first_two)) (e_bin sop_and (e_bin sop_shr (e_loc rfl lk_add_knights_b nn_b) e_int) (e_loc rfl lk_add_knights_not_last_two nn_not_last_two))) (fun _ _ => rfl))
   (b_cons (s_asg nd_add_knights rfl lk_add_knights_found (e_bin sop_or (e_bin sop_or (e_bin sop_or (e_bin sop_shl (e_loc rfl lk_add_knights_near nn_near) (e_bin sop_mul e_int (e_loc rfl lk_add_knights_files nn_files))) (e_bin sop_shr (e_loc rfl lk_add_knights_near nn_near) (e_bin sop_mul e_int (e_loc rfl lk_add_knights_files nn_files)))) (e_bin sop_shl (e_loc rfl lk_add_knights_far nn_far) (e_loc rfl lk_add_knights_files nn_files))) (e_bin sop_shr (e_loc rfl lk_add_knights_far nn_far) (e_loc rfl lk_add_knights_files nn_files))) (fun _ _ => rfl))
   (b_cons (s_expr (e_app (e_attr ok (e_loc rfl lk_add_knights_geo nn_geo) (fun _ => rfl) rfl) (e_bin sop_and (e_loc rfl lk_add_knights_found nn_found) (e_attr ok (e_loc rfl lk_add_knights_geo nn_geo) (fun _ => rfl) rfl)) (fun _ => rfl) (fun _ => rfl) rfl) (fun _ _ => rfl))
   b_nil))))))
   b_nil))))))
theorem snd_add_knights : SndF C 2 f_add_knights d_add_knights :=
  fn_sound (pn := [Str.ofString "geo"]) (ns' := ns_add_knights) ⟨tb.at_add_knights, rfl, rfl, rfl, (by decide +kernel), (by decide +kernel), (by decide +kernel)⟩ (by decide +kernel) rfl (sb_add_knights ok tb) (by decide)
theorem sb_add_castles : SndB C 0 scope_add_castles ns_add_castles body_add_castles b_add_castles :=
  (b_cons (s_attr ok (e_loc rfl lk_add_castles_geo nn_geo) (e_rep (e_lst (a_cons e_int (fun _ => rfl) a_nil)) (e_attr ok (e_loc rfl lk_add_castles_geo nn_geo) (fun _ => rfl) rfl)) rfl (fun _ _ => rfl))
   (b_cons (s_asg nd_add_castles rfl lk_add_castles_start (e_bin sop_div (e_attr ok (e_loc rfl lk_add_castles_geo nn_geo) (fun _ => rfl) rfl) e_int) (fun _ _ => rfl))
   (b_cons (s_forR nd_add_castles rfl lk_add_castles_index (e_rng1 (a_cons e_int (fun _ => rfl) a_nil) tb.b_range lk_add_castles_range) (fun _ _ => rfl) (b_cons (s_asg nd_add_castles rfl lk_add_castles_base (e_bin sop_mul (e_bin sop_mul (e_bin sop_shr (e_loc rfl lk_add_castles_index nn_index) e_int) (e_bin sop_sub (e_attr ok (e_loc rfl lk_add_castles_geo nn_geo) (fun _ => rfl) rfl) e_int)) (e_attr ok (e_loc rfl lk_add_castles_geo nn_geo) (fun _ => rfl) rfl)) (fun _ _ => rfl))
   (b_cons (s_asg nd_add_castles rfl lk_add_castles_corner (e_bin sop_sub (e_attr ok (e_loc rfl lk_add_castles_geo nn_geo) (fun _ => rfl) rfl) e_int) (fun _ _ => rfl))
   (b_cons (s_asg nd_add_castles rfl lk_add_castles_way e_int (fun _ _ => rfl))
   (b_cons (s_if (t_any (e_bin sop_and (e_loc rfl lk_add_castles_index nn_index) e_int) (fun _ _ => rfl)) (b_cons (s_asg nd_add_castles rfl lk_add_castles_corner e_int (fun _ _ => rfl))
   (b_cons (s_asg nd_add_castles rfl lk_add_castles_way (e_neg e_int) (fun _ _ => rfl))
   b_nil)) b_nil)
   (b_cons (s_asg nd_add_castles rfl lk_add_castles_goal (e_bin sop_add (e_loc rfl lk_add_castles_start nn_start) (e_bin sop_mul e_int (e_loc rfl lk_add_castles_way nn_way))) (fun _ _ => rfl))
   (b_cons (s_if (t_and (t_any (e_attr ok (e_loc rfl lk_add_castles_geo nn_geo) (fun _ => rfl) rfl) (fun _ _ => rfl)) (t_and1 (t_cmp sc_gt (e_bin sop_mul (e_bin sop_sub (e_loc rfl lk_add_castles_corner nn_corner) (e_loc rfl lk_add_castles_goal nn_goal)) (e_loc rfl lk_add_castles_way nn_way)) e_int rfl))) (b_cons (s_expr (e_app (e_attr ok (e_loc rfl lk_add_castles_geo nn_geo) (fun _ => rfl) rfl) (e_tup (a_cons (e_bin sop_add (e_loc rfl lk_add_castles_base nn_base) (e_loc rfl lk_add_castles_start nn_start)) (fun _ => rfl) (a_cons (e_bin sop_add (e_loc rfl lk_add_castles_base nn_base) (e_loc rfl lk_add_castles_goal nn_goal)) (fun _ => rfl) (a_cons (e_bin sop_add (e_loc rfl lk_add_castles_base nn_base) (e_loc rfl lk_add_castles_corner nn_corner)) (fun _ => rfl) (a_cons (e_bin sop_sub (e_bin sop_add (e_loc rfl lk_add_castles_base nn_base) (e_loc rfl lk_add_castles_goal nn_goal)) (e_loc rfl lk_add_castles_way nn_way)) (fun _ => rfl) a_nil))))) (fun _ => rfl) (fun _ => rfl) rfl) (fun _ _ => rfl))
   (b_cons (s_augSub (e_attr ok (e_loc rfl lk_add_castles_geo nn_geo) (fun _ => rfl) rfl) (e_bin sop_add (e_loc rfl lk_add_castles_base nn_base) (e_loc rfl lk_add_castles_start nn_start)) sop_or (e_bin sop_shl e_int (e_loc rfl lk_add_castles_index nn_index)) (fun _ _ _ => rfl))
   (b_cons (s_augSub (e_attr ok (e_loc rfl lk_add_castles_geo nn_geo) (fun _ => rfl) rfl) (e_bin sop_add (e_loc rfl lk_add_castles_base nn_base) (e_loc rfl lk_add_castles_corner nn_corner)) sop_or (e_bin sop_shl e_int (e_loc rfl lk_add_castles_index nn_index)) (fun _ _ _ => rfl))
   b_nil))) (b_cons (s_expr (e_app (e_attr ok (e_loc rfl lk_add_castles_geo nn_geo) (fun _ => rfl) rfl) e_none (fun _ => rfl) (fun _ => rfl) rfl) (fun _ _ => rfl))
   b_nil))
   b_nil)))))))
   b_nil)))
theorem snd_add_castles : SndF C 2 f_add_castles d_add_castles :=
  fn_sound (pn := [Str.ofString "geo"]) (ns' := ns_add_castles) ⟨tb.at_add_castles, rfl, rfl, rfl, (by decide +kernel), (by decide +kernel), (by decide +kernel)⟩ (by decide +kernel) rfl (sb_add_castles ok tb) (by decide)
theorem sb_make_geometry : SndB C 5 scope_make_geometry ns_make_geometry body_make_geometry b_make_geometry :=
  (b_cons (s_if (t_or (t_cmp sc_lt (e_loc rfl lk_make_geometry_files nn_files) e_int rfl) (t_or (t_cmp sc_gt (e_loc rfl lk_make_geometry_files nn_files) e_int rfl) (t_or (t_cmp sc_lt (e_loc rfl lk_make_geometry_ranks nn_ranks) e_int rfl) (t_or1 (t_cmp sc_gt (e_loc rfl lk_make_geometry_ranks nn_ranks) e_int rfl))))) (b_cons s_bad
   b_nil) b_nil)
   (b_cons (s_asg nd_make_geometry rfl lk_make_geometry_geo (e_new ok (snd_init ok tb) (by decide) (a_cons (e_loc rfl lk_make_geometry_files nn_files) (fun _ => rfl) (a_cons (e_loc rfl lk_make_geometry_ranks nn_ranks) (fun _ => rfl) (a_cons (e_loc rfl lk_make_geometry_has_double nn_has_double) (fun _ => rfl) (a_cons (e_loc rfl lk_make_geometry_has_castling nn_has_castling) (fun _ => rfl) a_nil)))) nofun tb.g_Geometry tb.k_Geometry tb.i_init tb.fn_init lk_make_geometry_Geometry nn_Geometry) (fun _ _ => rfl))
   (b_cons (s_expr (e_call (snd_add_masks ok tb) (by decide) (a_cons (e_loc rfl lk_make_geometry_geo nn_geo) (fun _ => rfl) a_nil) nofun tb.fn_add_masks tb.kp_add_masks lk_make_geometry_add_masks nn_add_masks) (fun _ _ => rfl))
   (b_cons (s_expr (e_call (snd_add_rays ok tb) (by decide) (a_cons (e_loc rfl lk_make_geometry_geo nn_geo) (fun _ => rfl) a_nil) nofun tb.fn_add_rays tb.kp_add_rays lk_make_geometry_add_rays nn_add_rays) (fun _ _ => rfl))
   (b_cons (s_expr (e_call (snd_add_pawns ok tb) (by decide) (a_cons (e_loc rfl lk_make_geometry_geo nn_geo) (fun _ => rfl) a_nil) nofun tb.fn_add_pawns tb.kp_add_pawns lk_make_geometry_add_pawns nn_add_pawns) (fun _ _ => rfl))
   (b_cons (s_expr (e_call (snd_add_knights ok tb) (by decide) (a_cons (e_loc rfl lk_make_geometry_geo nn_geo) (fun _ => rfl) a_nil) nofun tb.fn_add_knights tb.kp_add_knights lk_make_geometry_add_knights nn_add_knights) (fun _ _ => rfl))
   (b_cons (s_expr (e_call (snd_add_castles ok tb) (by decide) (a_cons (e_loc rfl lk_make_geometry_geo nn_geo) (fun _ => rfl) a_nil) nofun tb.fn_add_castles tb.kp_add_castles lk_make_geometry_add_castles nn_add_castles) (fun _ _ => rfl))
   (b_cons (s_ret (e_loc rfl lk_make_geometry_geo nn_geo))
   b_nil))))))))
theorem snd_make_geometry : SndF C 7 f_make_geometry d_make_geometry :=
  fn_sound (pn := [Str.ofString "files", Str.ofString "ranks", Str.ofString "has_double", Str.ofString "has_castling"]) (ns' := ns_make_geometry) ⟨tb.at_make_geometry, rfl, rfl, rfl, (by decide +kernel), (by decide +kernel), (by decide +kernel)⟩ (by decide +kernel) rfl (sb_make_geometry ok tb) (by decide)
theorem sb_ray_attacks : SndB C 2 scope_ray_attacks ns_ray_attacks body_ray_attacks b_ray_attacks :=
  (b_cons (s_asg nd_ray_attacks rfl lk_ray_attacks_ray (e_subL (e_subL (e_attr ok (e_loc rfl lk_ray_attacks_geo nn_geo) (fun _ => rfl) rfl) (e_loc rfl lk_ray_attacks_d nn_d) (fun _ _ => rfl)) (e_loc rfl lk_ray_attacks_square nn_square) (fun _ _ => rfl)) (fun _ _ => rfl))
   (b_cons (s_asg nd_ray_attacks rfl lk_ray_attacks_stop (e_bin sop_and (e_loc rfl lk_ray_attacks_ray nn_ray) (e_loc rfl lk_ray_attacks_occupied nn_occupied)) (fun _ _ => rfl))
   (b_cons (s_if (t_cmp sc_eq (e_loc rfl lk_ray_attacks_stop nn_stop) e_int rfl) (b_cons (s_ret (e_loc rfl lk_ray_attacks_ray nn_ray))
   b_nil) b_nil)
   (b_cons (s_if (t_any (e_call (snd_is_growing ok tb) (by decide) (a_cons (e_loc rfl lk_ray_attacks_d nn_d) (fun _ => rfl) a_nil) nofun tb.fn_is_growing tb.kp_is_growing lk_ray_attacks_is_growing nn_is_growing) (fun _ _ => rfl)) (b_cons (s_ret (e_bin sop_and (e_loc rfl lk_ray_attacks_ray nn_ray) (e_bin sop_xor (e_loc rfl lk_ray_attacks_stop nn_stop) (e_bin sop_sub (e_loc rfl lk_ray_attacks_stop nn_stop) e_int))))
   b_nil) b_nil)
   (b_cons (s_asg nd_ray_attacks rfl lk_ray_attacks_behind (e_bin sop_shr (e_loc rfl lk_ray_attacks_stop nn_stop) e_int) (fun _ _ => rfl))
   (b_cons (s_aug nd_ray_attacks rfl lk_ray_attacks_behind sop_or (e_bin sop_shr (e_loc rfl lk_ray_attacks_behind nn_behind) e_int))
   (b_cons (s_aug nd_ray_attacks rfl lk_ray_attacks_behind sop_or (e_bin sop_shr (e_loc rfl lk_ray_attacks_behind nn_behind) e_int))
   (b_cons (s_aug nd_ray_attacks rfl lk_ray_attacks_behind sop_or (e_bin sop_shr (e_loc rfl lk_ray_attacks_behind nn_behind) e_int))
   (b_cons (s_aug nd_ray_attacks rfl lk_ray_attacks_behind sop_or (e_bin sop_shr (e_loc rfl lk_ray_attacks_behind nn_behind) e_int))
   (b_cons (s_aug nd_ray_attacks rfl lk_ray_attacks_behind sop_or (e_bin sop_shr (e_loc rfl lk_ray_attacks_behind nn_behind) e_int))
   (b_cons (s_aug nd_ray_attacks rfl lk_ray_attacks_behind sop_or (e_bin sop_shr (e_loc rfl lk_ray_attacks_behind nn_behind) e_int))
   (b_cons (s_ret (e_bin sop_and (e_loc rfl lk_ray_attacks_ray nn_ray) (e_inv (e_loc rfl lk_ray_attacks_behind nn_behind))))
   b_nil))))))))))))
theorem snd_ray_attacks : SndF C 4 f_ray_attacks d_ray_attacks :=
  fn_sound (pn := [Str.ofString "geo", Str.ofString "d", Str.ofString "square", Str.ofString "occupied"]) (ns' := ns_ray_attacks) ⟨tb.at_ray_attacks, rfl, rfl, rfl, (by decide +kernel), (by decide +kernel), (by decide +kernel)⟩ (by decide +kernel) rfl (sb_ray_attacks ok tb) (by decide)
theorem sb_rook_attacks : SndB C 4 scope_rook_attacks ns_rook_attacks body_rook_attacks b_rook_attacks :=
  (b_cons (s_asg nd_rook_attacks rfl lk_rook_attacks_found e_int (fun _ _ => rfl))
   (b_cons (s_forR nd_rook_attacks rfl lk_rook_attacks_d (e_rng1 (a_cons e_int (fun _ => rfl) a_nil) tb.b_range lk_rook_attacks_range) (fun _ _ => rfl) (b_cons (s_aug nd_rook_attacks rfl lk_rook_attacks_found sop_or (e_call (snd_ray_attacks ok tb) (by decide) (a_cons (e_loc rfl lk_rook_attacks_geo nn_geo) (fun _ => rfl) (a_cons (e_loc rfl lk_rook_attacks_d nn_d) (fun _ => rfl) (a_cons (e_loc rfl lk_rook_attacks_square nn_square) (fun _ => rfl) (a_cons (e_loc rfl lk_rook_attacks_occupied nn_occupied) (fun _ => rfl) a_nil)))) nofun tb.fn_ray_attacks tb.kp_ray_attacks lk_rook_attacks_ray_attacks nn_ray_attacks))
   b_nil))
   (b_cons (s_ret (e_loc rfl lk_rook_attacks_found nn_found))
   b_nil)))
theorem snd_rook_attacks : SndF C 6 f_rook_attacks d_rook_attacks :=
  fn_sound (pn := [Str.ofString "geo", Str.ofString "square", Str.ofString "occupied"]) (ns' := ns_rook_attacks) ⟨tb.at_rook_attacks, rfl, rfl, rfl, (by decide +kernel), (by decide +kernel), (by decide +kernel)⟩ (by decide +kernel) rfl (sb_rook_attacks ok tb) (by decide)
theorem sb_bishop_attacks : SndB C 4 scope_bishop_attacks ns_bishop_attacks body_bishop_attacks b_bishop_attacks :=
  (b_cons (s_asg nd_bishop_attacks rfl lk_bishop_attacks_found e_int (fun _ _ => rfl))
   (b_cons (s_forR nd_bishop_attacks rfl lk_bishop_attacks_d (e_rng2 (a_cons e_int (fun _ => rfl) (a_cons e_int (fun _ => rfl) a_nil)) tb.b_range lk_bishop_attacks_range) (fun _ _ => rfl) (b_cons (s_aug nd_bishop_attacks rfl lk_bishop_attacks_found sop_or (e_call (snd_ray_attacks ok tb) (by decide) (a_cons (e_loc rfl lk_bishop_attacks_geo nn_geo) (fun _ => rfl) (a_cons (e_loc rfl lk_bishop_attacks_d nn_d) (fun _ => rfl) (a_cons (e_loc rfl lk_bishop_attacks_square nn_square) (fun _ => rfl) (a_cons (e_loc rfl lk_bishop_attacks_occupied nn_occupied) (fun _ => rfl) a_nil)))) nofun tb.fn_ray_attacks tb.kp_ray_attacks lk_bishop_attacks_ray_attacks nn_ray_attacks))
   b_nil))
   (b_cons (s_ret (e_loc rfl lk_bishop_attacks_found nn_found))
   b_nil)))
theorem snd_bishop_attacks : SndF C 6 f_bishop_attacks d_bishop_attacks :=
  fn_sound (pn := [Str.ofString "geo", Str.ofString "square", Str.ofString "occupied"]) (ns' := ns_bishop_attacks) ⟨tb.at_bishop_attacks, rfl, rfl, rfl, (by decide +kernel), (by decide +kernel), (by decide +kernel)⟩ (by decide +kernel) rfl (sb_bishop_attacks ok tb) (by decide)
theorem sb_queen_attacks : SndB C 6 scope_queen_attacks ns_queen_attacks body_queen_attacks b_queen_attacks :=
  (b_cons (s_ret (e_bin sop_or (e_call (snd_rook_attacks ok tb) (by decide) (a_cons (e_loc rfl lk_queen_attacks_geo nn_geo) (fun _ => rfl) (a_cons (e_loc rfl lk_queen_attacks_square nn_square) (fun _ => rfl) (a_cons (e_loc rfl lk_queen_attacks_occupied nn_occupied) (fun _ => rfl) a_nil))) nofun tb.fn_rook_attacks tb.kp_rook_attacks lk_queen_attacks_rook_attacks nn_rook_attacks) (e_call (snd_bishop_attacks ok tb) (by decide) (a_cons (e_loc rfl lk_queen_attacks_geo nn_geo) (fun _ => rfl) (a_cons (e_loc rfl lk_queen_attacks_square nn_square) (fun _ => rfl) (a_cons (e_loc rfl lk_queen_attacks_occupied nn_occupied) (fun _ => rfl) a_nil))) nofun tb.fn_bishop_attacks tb.kp_bishop_attacks lk_queen_attacks_bishop_attacks nn_bishop_attacks)))
   b_nil)
theorem snd_queen_attacks : SndF C 8 f_queen_attacks d_queen_attacks :=
  fn_sound (pn := [Str.ofString "geo", Str.ofString "square", Str.ofString "occupied"]) (ns' := ns_queen_attacks) ⟨tb.at_queen_attacks, rfl, rfl, rfl, (by decide +kernel), (by decide +kernel), (by decide +kernel)⟩ (by decide +kernel) rfl (sb_queen_attacks ok tb) (by decide)
theorem sb_slider_attacks : SndB C 8 scope_slider_attacks ns_slider_attacks body_slider_attacks b_slider_attacks :=
  (b_cons (s_if (t_cmp sc_eq (e_loc rfl lk_slider_attacks_kind nn_kind) (e_globE tb.g_BISHOP lk_slider_attacks_BISHOP nn_BISHOP) rfl) (b_cons (s_ret (e_call (snd_bishop_attacks ok tb) (by decide) (a_cons (e_loc rfl lk_slider_attacks_geo nn_geo) (fun _ => rfl) (a_cons (e_loc rfl lk_slider_attacks_square nn_square) (fun _ => rfl) (a_cons (e_loc rfl lk_slider_attacks_occupied nn_occupied) (fun _ => rfl) a_nil))) nofun tb.fn_bishop_attacks tb.kp_bishop_attacks lk_slider_attacks_bishop_attacks nn_bishop_attacks))
   b_nil) b_nil)
   (b_cons (s_if (t_cmp sc_eq (e_loc rfl lk_slider_attacks_kind nn_kind) (e_globE tb.g_ROOK lk_slider_attacks_ROOK nn_ROOK) rfl) (b_cons (s_ret (e_call (snd_rook_attacks ok tb) (by decide) (a_cons (e_loc rfl lk_slider_attacks_geo nn_geo) (fun _ => rfl) (a_cons (e_loc rfl lk_slider_attacks_square nn_square) (fun _ => rfl) (a_cons (e_loc rfl lk_slider_attacks_occupied nn_occupied) (fun _ => rfl) a_nil))) nofun tb.fn_rook_attacks tb.kp_rook_attacks lk_slider_attacks_rook_attacks nn_rook_attacks))
   b_nil) b_nil)
   (b_cons (s_if (t_cmp sc_eq (e_loc rfl lk_slider_attacks_kind nn_kind) (e_globE tb.g_QUEEN lk_slider_attacks_QUEEN nn_QUEEN) rfl) (b_cons (s_ret (e_call (snd_queen_attacks ok tb) (by decide) (a_cons (e_loc rfl lk_slider_attacks_geo nn_geo) (fun _ => rfl) (a_cons (e_loc rfl lk_slider_attacks_square nn_square) (fun _ => rfl) (a_cons (e_loc rfl lk_slider_attacks_occupied nn_occupied) (fun _ => rfl) a_nil))) nofun tb.fn_queen_attacks tb.kp_queen_attacks lk_slider_attacks_queen_attacks nn_queen_attacks))
   b_nil) b_nil)
   (b_cons (s_ret e_int)
   b_nil))))
theorem snd_slider_attacks : SndF C 10 f_slider_attacks d_slider_attacks :=
  fn_sound (pn := [Str.ofString "geo", Str.ofString "kind", Str.ofString "square", Str.ofString "occupied"]) (ns' := ns_slider_attacks) ⟨tb.at_slider_attacks, rfl, rfl, rfl, (by decide +kernel), (by decide +kernel), (by decide +kernel)⟩ (by decide +kernel) rfl (sb_slider_attacks ok tb) (by decide)
theorem sb_piece_attacks : SndB C 10 scope_piece_attacks ns_piece_attacks body_piece_attacks b_piece_attacks :=
  (b_cons (s_if (t_cmp sc_eq (e_loc rfl lk_piece_attacks_kind nn_kind) (e_globE tb.g_PAWN lk_piece_attacks_PAWN nn_PAWN) rfl) (b_cons (s_ret (e_subL (e_subL (e_attr ok (e_loc rfl lk_piece_attacks_geo nn_geo) (fun _ => rfl) rfl) (e_loc rfl lk_piece_attacks_side nn_side) (fun _ _ => rfl)) (e_loc rfl lk_piece_attacks_square nn_square) (fun _ _ => rfl)))
   b_nil) b_nil)
   (b_cons (s_if (t_cmp sc_eq (e_loc rfl lk_piece_attacks_kind nn_kind) (e_globE tb.g_KNIGHT lk_piece_attacks_KNIGHT nn_KNIGHT) rfl) (b_cons (s_ret (e_subL (e_attr ok (e_loc rfl lk_piece_attacks_geo nn_geo) (fun _ => rfl) rfl) (e_loc rfl lk_piece_attacks_square nn_square) (fun _ _ => rfl)))
   b_nil) b_nil)
   (b_cons (s_if (t_cmp sc_eq (e_loc rfl lk_piece_attacks_kind nn_kind) (e_globE tb.g_KING lk_piece_attacks_KING nn_KING) rfl) (b_cons (s_ret (e_subL (e_attr ok (e_loc rfl lk_piece_attacks_geo nn_geo) (fun _ => rfl) rfl) (e_loc rfl lk_piece_attacks_square nn_square) (fun _ _ => rfl)))
   b_nil) b_nil)
   (b_cons (s_ret (e_call (snd_slider_attacks ok tb) (by decide) (a_cons (e_loc rfl lk_piece_attacks_geo nn_geo) (fun _ => rfl) (a_cons (e_loc rfl lk_piece_attacks_kind nn_kind) (fun _ => rfl) (a_cons (e_loc rfl lk_piece_attacks_square nn_square) (fun _ => rfl) (a_cons (e_loc rfl lk_piece_attacks_occupied nn_occupied) (fun _ => rfl) a_nil)))) nofun tb.fn_slider_attacks tb.kp_slider_attacks lk_piece_attacks_slider_attacks nn_slider_attacks))
   b_nil))))
theorem snd_piece_attacks : SndF C 12 f_piece_attacks d_piece_attacks :=
  fn_sound (pn := [Str.ofString "geo", Str.ofString "side", Str.ofString "kind", Str.ofString "square", Str.ofString "occupied"]) (ns' := ns_piece_attacks) ⟨tb.at_piece_attacks, rfl, rfl, rfl, (by decide +kernel), (by decide +kernel), (by decide +kernel)⟩ (by decide +kernel) rfl (sb_piece_attacks ok tb) (by decide)
theorem sb_solve : SndB C 0 scope_solve ns_solve body_solve b_solve :=
  (b_cons (s_asg nd_solve rfl lk_solve_values (e_rep (e_lst (a_cons (e_globE tb.g_NO_MATE lk_solve_NO_MATE nn_NO_MATE) (fun _ => rfl) a_nil)) (e_len (a_cons (e_loc rfl lk_solve_after nn_after) (fun _ => rfl) a_nil) tb.b_len lk_solve_len)) (fun _ _ => rfl))
   (b_cons (s_asg nd_solve rfl lk_solve_left (e_lst a_nil) (fun _ _ => rfl))
   (b_cons (s_emp nd_solve rfl lk_solve_before (e_loc rfl lk_solve_after nn_after) (fun _ _ _ _ => rfl) (fun _ _ => rfl) (by decide) (by decide) rfl (by decide) (by decide))
   (b_cons (s_asg nd_solve rfl lk_solve_queue (e_lst a_nil) (fun _ _ => rfl))
   (b_cons (s_forR nd_solve rfl lk_solve_n (e_rng1 (a_cons (e_len (a_cons (e_loc rfl lk_solve_after nn_after) (fun _ => rfl) a_nil) tb.b_len lk_solve_len) (fun _ => rfl) a_nil) tb.b_range lk_solve_range) (fun _ _ => rfl) (b_cons (s_expr (e_app (e_loc rfl lk_solve_left nn_left) (e_len (a_cons (e_subL (e_loc rfl lk_solve_after nn_after) (e_loc rfl lk_solve_n nn_n) (fun _ _ => rfl)) (fun _ => rfl) a_nil) tb.b_len lk_solve_len) (fun _ => rfl) (fun _ => rfl) rfl) (fun _ _ => rfl))
   (b_cons (s_forL nd_solve rfl lk_solve_m (e_subL (e_loc rfl lk_solve_after nn_after) (e_loc rfl lk_solve_n nn_n) (fun _ _ => rfl)) (fun _ _ => rfl) (b_cons (s_if (t_cmp sc_ne (e_loc rfl lk_solve_m nn_m) (e_globE tb.g_OUTSIDE lk_solve_OUTSIDE nn_OUTSIDE) rfl) (b_cons (s_expr (e_app (e_subL (e_loc rfl lk_solve_before nn_before) (e_loc rfl lk_solve_m nn_m) (fun _ _ => rfl)) (e_loc rfl lk_solve_n nn_n) (fun _ => rfl) (fun _ => rfl) rfl) (fun _ _ => rfl))
   b_nil) b_nil)
   b_nil))
   (b_cons (s_if (t_any (e_subL (e_loc rfl lk_solve_lost nn_lost) (e_loc rfl lk_solve_n nn_n) (fun _ _ => rfl)) (fun _ _ => rfl)) (b_cons (s_subL (e_loc rfl lk_solve_values nn_values) (e_loc rfl lk_solve_n nn_n) e_int (fun _ _ => rfl))
   (b_cons (s_expr (e_app (e_loc rfl lk_solve_queue nn_queue) (e_loc rfl lk_solve_n nn_n) (fun _ => rfl) (fun _ => rfl) rfl) (fun _ _ => rfl))
   b_nil)) b_nil)
   b_nil))))
   (b_cons (s_asg nd_solve rfl lk_solve_at e_int (fun _ _ => rfl))
   (b_cons (s_whl (t_cmp sc_lt (e_loc rfl lk_solve_at nn_at) (e_len (a_cons (e_loc rfl lk_solve_queue nn_queue) (fun _ => rfl) a_nil) tb.b_len lk_solve_len) rfl) (b_cons (s_asg nd_solve rfl lk_solve_m (e_subL (e_loc rfl lk_solve_queue nn_queue) (e_loc rfl lk_solve_at nn_at) (fun _ _ => rfl)) (fun _ _ => rfl))
   (b_cons (s_aug nd_solve rfl lk_solve_at sop_add e_int)
   (b_cons (s_forL nd_solve rfl lk_solve_n (e_subL (e_loc rfl lk_solve_before nn_before) (e_loc rfl lk_solve_m nn_m) (fun _ _ => rfl)) (fun _ _ => rfl) (b_cons (s_augSub (e_loc rfl lk_solve_left nn_left) (e_loc rfl lk_solve_n nn_n) sop_sub e_int (fun _ _ _ => rfl))
   (b_cons (s_if (t_and (t_cmp sc_eq (e_subL (e_loc rfl lk_solve_values nn_values) (e_loc rfl lk_solve_n nn_n) (fun _ _ => rfl)) (e_globE tb.g_NO_MATE lk_solve_NO_MATE nn_NO_MATE) rfl) (t_and1 (t_or (t_cmp sc_eq (e_subL (e_loc rfl lk_solve_sides nn_sides) (e_loc rfl lk_solve_n nn_n) (fun _ _ => rfl)) (e_globE tb.g_STRONG_MOVES lk_solve_STRONG_MOVES nn_STRONG_MOVES) rfl) (t_or1 (t_cmp sc_eq (e_subL (e_loc rfl lk_solve_left nn_left) (e_loc rfl lk_solve_n nn_n) (fun _ _ => rfl)) e_int rfl))))) (b_cons (s_subL (e_loc rfl lk_solve_values nn_values) (e_loc rfl lk_solve_n nn_n) (e_bin sop_add (e_subL (e_loc rfl lk_solve_values nn_values) (e_loc rfl lk_solve_m nn_m) (fun _ _ => rfl)) e_int) (fun _ _ => rfl))
   (b_cons (s_expr (e_app (e_loc rfl lk_solve_queue nn_queue) (e_loc rfl lk_solve_n nn_n) (fun _ => rfl) (fun _ => rfl) rfl) (fun _ _ => rfl))
   b_nil)) b_nil)
   b_nil)))
   b_nil))))
   (b_cons (s_ret (e_loc rfl lk_solve_values nn_values))
   b_nil))))))))
theorem snd_solve : SndF C 2 f_solve d_solve :=
  fn_sound (pn := [Str.ofString "sides", Str.ofString "after", Str.ofString "lost"]) (ns' := ns_solve) ⟨tb.at_solve, rfl, rfl, rfl, (by decide +kernel), (by decide +kernel), (by decide +kernel)⟩ (by decide +kernel) rfl (sb_solve ok tb) (by decide)
theorem sb_index_of : SndB C 0 scope_index_of ns_index_of body_index_of b_index_of :=
  (b_cons (s_ret (e_bin sop_add (e_bin sop_mul (e_bin sop_add (e_bin sop_mul (e_bin sop_add (e_bin sop_mul (e_loc rfl lk_index_of_side nn_side) (e_loc rfl lk_index_of_size nn_size)) (e_loc rfl lk_index_of_strong nn_strong)) (e_loc rfl lk_index_of_size nn_size)) (e_loc rfl lk_index_of_piece nn_piece)) (e_loc rfl lk_index_of_size nn_size)) (e_loc rfl lk_index_of_weak nn_weak)))
   b_nil)
theorem snd_index_of : SndF C 2 f_index_of d_index_of :=
  fn_sound (pn := [Str.ofString "size", Str.ofString "side", Str.ofString "strong", Str.ofString "piece", Str.ofString "weak"]) (ns' := ns_index_of) ⟨tb.at_index_of, rfl, rfl, rfl, (by decide +kernel), (by decide +kernel), (by decide +kernel)⟩ (by decide +kernel) rfl (sb_index_of ok tb) (by decide)
theorem sb_parts_of : SndB C 0 scope_parts_of ns_parts_of body_parts_of b_parts_of :=
  (b_cons (s_ret (e_tup (a_cons (e_bin sop_div (e_loc rfl lk_parts_of_n nn_n) (e_bin sop_mul (e_bin sop_mul (e_loc rfl lk_parts_of_size nn_size) (e_loc rfl lk_parts_of_size nn_size)) (e_loc rfl lk_parts_of_size nn_size))) (fun _ => rfl) (a_cons (e_bin sop_mod (e_bin sop_div (e_loc rfl lk_parts_of_n nn_n) (e_bin sop_mul (e_loc rfl lk_parts_of_size nn_size) (e_loc rfl lk_parts_of_size nn_size))) (e_loc rfl lk_parts_of_size nn_size)) (fun _ => rfl) (a_cons (e_bin sop_mod (e_bin sop_div (e_loc rfl lk_parts_of_n nn_n) (e_loc rfl lk_parts_of_size nn_size)) (e_loc rfl lk_parts_of_size nn_size)) (fun _ => rfl) (a_cons (e_bin sop_mod (e_loc rfl lk_parts_of_n nn_n) (e_loc rfl lk_parts_of_size nn_size)) (fun _ => rfl) a_nil))))))
   b_nil)
theorem snd_parts_of : SndF C 2 f_parts_of d_parts_of :=
  fn_sound (pn := [Str.ofString "size", Str.ofString "n"]) (ns' := ns_parts_of) ⟨tb.at_parts_of, rfl, rfl, rfl, (by decide +kernel), (by decide +kernel), (by decide +kernel)⟩ (by decide +kernel) rfl (sb_parts_of ok tb) (by decide)
theorem sb_mark_places : SndB C 12 scope_mark_places ns_mark_places body_mark_places b_mark_places :=
  (b_cons (s_asg nd_mark_places rfl lk_mark_places_size (e_attr ok (e_loc rfl lk_mark_places_geo nn_geo) (fun _ => rfl) rfl) (fun _ _ => rfl))
   (b_cons (s_asg nd_mark_places rfl lk_mark_places_places (e_lst a_nil) (fun _ _ => rfl))
   (b_cons (s_forR nd_mark_places rfl lk_mark_places_strong (e_rng1 (a_cons (e_loc rfl lk_mark_places_size nn_size) (fun _ => rfl) a_nil) tb.b_range lk_mark_places_range) (fun _ _ => rfl) (b_cons (s_forR nd_mark_places rfl lk_mark_places_piece (e_rng1 (a_cons (e_loc rfl lk_mark_places_size nn_size) (fun _ => rfl) a_nil) tb.b_range lk_mark_places_range) (fun _ _ => rfl) (b_cons (s_asg nd_mark_places rfl lk_mark_places_free (e_bin sop_and (e_attr ok (e_loc rfl lk_mark_places_geo nn_geo) (fun _ => rfl) rfl) (e_inv (e_bin sop_or (e_bin sop_or (e_subL (e_attr ok (e_loc rfl lk_mark_places_geo nn_geo) (fun _ => rfl) rfl) (e_loc rfl lk_mark_places_strong nn_strong) (fun _ _ => rfl)) (e_bin sop_shl e_int (e_loc rfl lk_mark_places_strong nn_strong))) (e_bin sop_shl e_int (e_loc rfl lk_mark_places_piece nn_piece))))) (fun _ _ => rfl))
   (b_cons (s_if (t_or (t_cmp sc_eq (e_bin sop_and (e_bin sop_shr (e_loc rfl lk_mark_places_zone nn_zone) (e_loc rfl lk_mark_places_strong nn_strong)) e_int) e_int rfl) (t_or (t_cmp sc_eq (e_loc rfl lk_mark_places_piece nn_piece) (e_loc rfl lk_mark_places_strong nn_strong) rfl) (t_or1 (t_cmp sc_eq (e_loc rfl lk_mark_places_free nn_free) e_int rfl)))) (b_cons s_cont
   b_nil) b_nil)
   (b_cons (s_asg nd_mark_places rfl lk_mark_places_checked (e_call (snd_piece_attacks ok tb) (by decide) (a_cons (e_loc rfl lk_mark_places_geo nn_geo) (fun _ => rfl) (a_cons (e_globE tb.g_WHITE lk_mark_places_WHITE nn_WHITE) (fun _ => rfl) (a_cons (e_loc rfl lk_mark_places_kind nn_kind) (fun _ => rfl) (a_cons (e_loc rfl lk_mark_places_piece nn_piece) (fun _ => rfl) (a_cons (e_bin sop_shl e_int (e_loc rfl lk_mark_places_strong nn_strong)) (fun _ => rfl) a_nil))))) nofun tb.fn_piece_attacks tb.kp_piece_attacks lk_mark_places_piece_attacks nn_piece_attacks) (fun _ _ => rfl))
   (b_cons (s_forR nd_mark_places rfl lk_mark_places_weak (e_rng1 (a_cons (e_loc rfl lk_mark_places_size nn_size) (fun _ => rfl) a_nil) tb.b_range lk_mark_places_range) (fun _ _ => rfl) (b_cons (s_if (t_any (e_bin sop_and (e_bin sop_shr (e_loc rfl lk_mark_places_free nn_free) (e_loc rfl lk_mark_places_weak nn_weak)) e_int) (fun _ _ => rfl)) (b_cons (s_expr (e_app (e_loc rfl lk_mark_places_places nn_places) (e_call (snd_index_of ok tb) (by decide) (a_cons (e_loc rfl lk_mark_places_size nn_size) (fun _ => rfl) (a_cons (e_globE tb.g_WEAK_MOVES lk_mark_places_WEAK_MOVES nn_WEAK_MOVES) (fun _ => rfl) (a_cons (e_loc rfl lk_mark_places_strong nn_strong) (fun _ => rfl) (a_cons (e_loc rfl lk_mark_places_piece nn_piece) (fun _ => rfl) (a_cons (e_loc rfl lk_mark_places_weak nn_weak) (fun _ => rfl) a_nil))))) nofun tb.fn_index_of tb.kp_index_of lk_mark_places_index_of nn_index_of) (fun _ => rfl) (fun _ => rfl) rfl) (fun _ _ => rfl))
   (b_cons (s_if (t_cmp sc_eq (e_bin sop_and (e_bin sop_shr (e_loc rfl lk_mark_places_checked nn_checked) (e_loc rfl lk_mark_places_weak nn_weak)) e_int) e_int rfl) (b_cons (s_expr (e_app (e_loc rfl lk_mark_places_places nn_places) (e_call (snd_index_of ok tb) (by decide) (a_cons (e_loc rfl lk_mark_places_size nn_size) (fun _ => rfl) (a_cons (e_globE tb.g_STRONG_MOVES lk_mark_places_STRONG_MOVES nn_STRONG_MOVES) (fun _ => rfl) (a_cons (e_loc rfl lk_mark_places_strong nn_strong) (fun _ => rfl) (a_cons (e_loc rfl lk_mark_places_piece nn_piece) (fun _ => rfl) (a_cons (e_loc rfl lk_mark_places_weak nn_weak) (fun _ => rfl) a_nil))))) nofun tb.fn_index_of tb.kp_index_of lk_mark_places_index_of nn_index_of) (fun _ => rfl) (fun _ => rfl) rfl) (fun _ _ => rfl))
   b_nil) b_nil)
   b_nil)) b_nil)
   b_nil))
   b_nil)))))
   b_nil))
   (b_cons (s_forL nd_mark_places rfl lk_mark_places_n (e_loc rfl lk_mark_places_places nn_places) (fun _ _ => rfl) (b_cons (s_subL (e_loc rfl lk_mark_places_table nn_table) (e_loc rfl lk_mark_places_n nn_n) (e_globE tb.g_NO_MATE lk_mark_places_NO_MATE nn_NO_MATE) (fun _ _ => rfl))
   b_nil))
   (b_cons (s_ret (e_loc rfl lk_mark_places_places nn_places))
   b_nil)))))
theorem snd_mark_places : SndF C 14 f_mark_places d_mark_places :=
  fn_sound (pn := [Str.ofString "geo", Str.ofString "kind", Str.ofString "zone", Str.ofString "table"]) (ns' := ns_mark_places) ⟨tb.at_mark_places, rfl, rfl, rfl, (by decide +kernel), (by decide +kernel), (by decide +kernel)⟩ (by decide +kernel) rfl (sb_mark_places ok tb) (by decide)
theorem sb_weak_moves : SndB C 2 scope_weak_moves ns_weak_moves body_weak_moves b_weak_moves :=
  (b_cons (s_asg nd_weak_moves rfl lk_weak_moves_out (e_lst a_nil) (fun _ _ => rfl))
   (b_cons (s_asg nd_weak_moves rfl lk_weak_moves_steps (e_subL (e_attr ok (e_loc rfl lk_weak_moves_geo nn_geo) (fun _ => rfl) rfl) (e_loc rfl lk_weak_moves_weak nn_weak) (fun _ _ => rfl)) (fun _ _ => rfl))
   (b_cons (s_forR nd_weak_moves rfl lk_weak_moves_goal (e_rng1 (a_cons (e_attr ok (e_loc rfl lk_weak_moves_geo nn_geo) (fun _ => rfl) rfl) (fun _ => rfl) a_nil) tb.b_range lk_weak_moves_range) (fun _ _ => rfl) (b_cons (s_if (t_cmp sc_eq (e_bin sop_and (e_bin sop_shr (e_loc rfl lk_weak_moves_steps nn_steps) (e_loc rfl lk_weak_moves_goal nn_goal)) e_int) e_int rfl) (b_cons s_cont
   b_nil) b_nil)
   (b_cons (s_if (t_cmp sc_eq (e_loc rfl lk_weak_moves_goal nn_goal) (e_loc rfl lk_weak_moves_piece nn_piece) rfl) (b_cons (s_if (t_cmp sc_eq (e_bin sop_and (e_bin sop_shr (e_subL (e_attr ok (e_loc rfl lk_weak_moves_geo nn_geo) (fun _ => rfl) rfl) (e_loc rfl lk_weak_moves_strong nn_strong) (fun _ _ => rfl)) (e_loc rfl lk_weak_moves_piece nn_piece)) e_int) e_int rfl) (b_cons (s_expr (e_app (e_loc rfl lk_weak_moves_out nn_out) (e_tup (a_cons (e_loc rfl lk_weak_moves_weak nn_weak) (fun _ => rfl) (a_cons (e_loc rfl lk_weak_moves_goal nn_goal) (fun _ => rfl) (a_cons (e_globE tb.g_OUTSIDE lk_weak_moves_OUTSIDE nn_OUTSIDE) (fun _ => rfl) a_nil)))) (fun _ => rfl) (fun _ => rfl) rfl) (fun _ _ => rfl))
   b_nil) b_nil)
   b_nil) (b_cons (s_asg nd_weak_moves rfl lk_weak_moves_place (e_call (snd_index_of ok tb) (by decide) (a_cons (e_attr ok (e_loc rfl lk_weak_moves_geo nn_geo) (fun _ => rfl) rfl) (fun _ => rfl) (a_cons (e_globE tb.g_STRONG_MOVES lk_weak_moves_STRONG_MOVES nn_STRONG_MOVES) (fun _ => rfl) (a_cons (e_loc rfl lk_weak_moves_strong nn_strong) (fun _ => rfl) (a_cons (e_loc rfl lk_weak_moves_piece nn_piece) (fun _ => rfl) (a_cons (e_loc rfl lk_weak_moves_goal nn_goal) (fun _ => rfl) a_nil))))) nofun tb.fn_index_of tb.kp_index_of lk_weak_moves_index_of nn_index_of) (fun _ _ => rfl))
   (b_cons (s_if (t_cmp sc_ne (e_subL (e_loc rfl lk_weak_moves_table nn_table) (e_loc rfl lk_weak_moves_place nn_place) (fun _ _ => rfl)) (e_globE tb.g_NOT_A_PLACE lk_weak_moves_NOT_A_PLACE nn_NOT_A_PLACE) rfl) (b_cons (s_expr (e_app (e_loc rfl lk_weak_moves_out nn_out) (e_tup (a_cons (e_loc rfl lk_weak_moves_weak nn_weak) (fun _ => rfl) (a_cons (e_loc rfl lk_weak_moves_goal nn_goal) (fun _ => rfl) (a_cons (e_loc rfl lk_weak_moves_place nn_place) (fun _ => rfl) a_nil)))) (fun _ => rfl) (fun _ => rfl) rfl) (fun _ _ => rfl))
   b_nil) b_nil)
   b_nil)))
   b_nil)))
   (b_cons (s_ret (e_loc rfl lk_weak_moves_out nn_out))
   b_nil))))
theorem snd_weak_moves : SndF C 4 f_weak_moves d_weak_moves :=
  fn_sound (pn := [Str.ofString "geo", Str.ofString "table", Str.ofString "strong", Str.ofString "piece", Str.ofString "weak"]) (ns' := ns_weak_moves) ⟨tb.at_weak_moves, rfl, rfl, rfl, (by decide +kernel), (by decide +kernel), (by decide +kernel)⟩ (by decide +kernel) rfl (sb_weak_moves ok tb) (by decide)
theorem sb_strong_moves : SndB C 12 scope_strong_moves ns_strong_moves body_strong_moves b_strong_moves :=
  (b_cons (s_asg nd_strong_moves rfl lk_strong_moves_out (e_lst a_nil) (fun _ _ => rfl))
   (b_cons (s_asg nd_strong_moves rfl lk_strong_moves_steps (e_subL (e_attr ok (e_loc rfl lk_strong_moves_geo nn_geo) (fun _ => rfl) rfl) (e_loc rfl lk_strong_moves_strong nn_strong) (fun _ _ => rfl)) (fun _ _ => rfl))
   (b_cons (s_asg nd_strong_moves rfl lk_strong_moves_slides (e_call (snd_piece_attacks ok tb) (by decide) (a_cons (e_loc rfl lk_strong_moves_geo nn_geo) (fun _ => rfl) (a_cons (e_globE tb.g_WHITE lk_strong_moves_WHITE nn_WHITE) (fun _ => rfl) (a_cons (e_loc rfl lk_strong_moves_kind nn_kind) (fun _ => rfl) (a_cons (e_loc rfl lk_strong_moves_piece nn_piece) (fun _ => rfl) (a_cons (e_bin sop_or (e_bin sop_shl e_int (e_loc rfl lk_strong_moves_strong nn_strong)) (e_bin sop_shl e_int (e_loc rfl lk_strong_moves_weak nn_weak))) (fun _ => rfl) a_nil))))) nofun tb.fn_piece_attacks tb.kp_piece_attacks lk_strong_moves_piece_attacks nn_piece_attacks) (fun _ _ => rfl))
   (b_cons (s_forR nd_strong_moves rfl lk_strong_moves_goal (e_rng1 (a_cons (e_attr ok (e_loc rfl lk_strong_moves_geo nn_geo) (fun _ => rfl) rfl) (fun _ => rfl) a_nil) tb.b_range lk_strong_moves_range) (fun _ _ => rfl) (b_cons (s_if (t_any (e_bin sop_and (e_bin sop_shr (e_loc rfl lk_strong_moves_steps nn_steps) (e_loc rfl lk_strong_moves_goal nn_goal)) e_int) (fun _ _ => rfl)) (b_cons (s_asg nd_strong_moves rfl lk_strong_moves_place (e_call (snd_index_of ok tb) (by decide) (a_cons (e_attr ok (e_loc rfl lk_strong_moves_geo nn_geo) (fun _ => rfl) rfl) (fun _ => rfl) (a_cons (e_globE tb.g_WEAK_MOVES lk_strong_moves_WEAK_MOVES nn_WEAK_MOVES) (fun _ => rfl) (a_cons (e_loc rfl lk_strong_moves_goal nn_goal) (fun _ => rfl) (a_cons (e_loc rfl lk_strong_moves_piece nn_piece) (fun _ => rfl) (a_cons (e_loc rfl lk_strong_moves_weak nn_weak) (fun _ => rfl) a_nil))))) nofun tb.fn_index_of tb.kp_index_of lk_strong_moves_index_of nn_index_of) (fun _ _ => rfl))
   (b_cons (s_if (t_cmp sc_ne (e_subL (e_loc rfl lk_strong_moves_table nn_table) (e_loc rfl lk_strong_moves_place nn_place) (fun _ _ => rfl)) (e_globE tb.g_NOT_A_PLACE lk_strong_moves_NOT_A_PLACE nn_NOT_A_PLACE) rfl) (b_cons (s_expr (e_app (e_loc rfl lk_strong_moves_out nn_out) (e_tup (a_cons (e_loc rfl lk_strong_moves_strong nn_strong) (fun _ => rfl) (a_cons (e_loc rfl lk_strong_moves_goal nn_goal) (fun _ => rfl) (a_cons (e_loc rfl lk_strong_moves_place nn_place) (fun _ => rfl) a_nil)))) (fun _ => rfl) (fun _ => rfl) rfl) (fun _ _ => rfl))
   b_nil) b_nil)
   b_nil)) b_nil)
   b_nil))
   (b_cons (s_forR nd_strong_moves rfl lk_strong_moves_goal (e_rng1 (a_cons (e_attr ok (e_loc rfl lk_strong_moves_geo nn_geo) (fun _ => rfl) rfl) (fun _ => rfl) a_nil) tb.b_range lk_strong_moves_range) (fun _ _ => rfl) (b_cons (s_if (t_any (e_bin sop_and (e_bin sop_shr (e_loc rfl lk_strong_moves_slides nn_slides) (e_loc rfl lk_strong_moves_goal nn_goal)) e_int) (fun _ _ => rfl)) (b_cons (s_asg nd_strong_moves rfl lk_strong_moves_place (e_call (snd_index_of ok tb) (by decide) (a_cons (e_attr ok (e_loc rfl lk_strong_moves_geo nn_geo) (fun _ => rfl) rfl) (fun _ => rfl) (a_cons (e_globE tb.g_WEAK_MOVES lk_strong_moves_WEAK_MOVES nn_WEAK_MOVES) (fun _ => rfl) (a_cons (e_loc rfl lk_strong_moves_strong nn_strong) (fun _ => rfl) (a_cons (e_loc rfl lk_strong_moves_goal nn_goal) (fun _ => rfl) (a_cons (e_loc rfl lk_strong_moves_weak nn_weak) (fun _ => rfl) a_nil))))) nofun tb.fn_index_of tb.kp_index_of lk_strong_moves_index_of nn_index_of) (fun _ _ => rfl))
   (b_cons (s_if (t_cmp sc_ne (e_subL (e_loc rfl lk_strong_moves_table nn_table) (e_loc rfl lk_strong_moves_place nn_place) (fun _ _ => rfl)) (e_globE tb.g_NOT_A_PLACE lk_strong_moves_NOT_A_PLACE nn_NOT_A_PLACE) rfl) (b_cons (s_expr (e_app (e_loc rfl lk_strong_moves_out nn_out) (e_tup (a_cons (e_loc rfl lk_strong_moves_piece nn_piece) (fun _ => rfl) (a_cons (e_loc rfl lk_strong_moves_goal nn_goal) (fun _ => rfl) (a_cons (e_loc rfl lk_strong_moves_place nn_place) (fun _ => rfl) a_nil)))) (fun _ => rfl) (fun _ => rfl) rfl) (fun _ _ => rfl))
   b_nil) b_nil)
   b_nil)) b_nil)
   b_nil))
   (b_cons (s_ret (e_loc rfl lk_strong_moves_out nn_out))
   b_nil))))))
theorem snd_strong_moves : SndF C 14 f_strong_moves d_strong_moves :=
  fn_sound (pn := [Str.ofString "geo", Str.ofString "table", Str.ofString "kind", Str.ofString "strong", Str.ofString "piece", Str.ofString "weak"]) (ns' := ns_strong_moves) ⟨tb.at_strong_moves, rfl, rfl, rfl, (by decide +kernel), (by decide +kernel), (by decide +kernel)⟩ (by decide +kernel) rfl (sb_strong_moves ok tb) (by decide)
theorem sb_moves_at : SndB C 14 scope_moves_at ns_moves_at body_moves_at b_moves_at :=
  (b_cons (s_if (t_cmp sc_eq (e_loc rfl lk_moves_at_side nn_side) (e_globE tb.g_WEAK_MOVES lk_moves_at_WEAK_MOVES nn_WEAK_MOVES) rfl) (b_cons (s_ret (e_call (snd_weak_moves ok tb) (by decide) (a_cons (e_loc rfl lk_moves_at_geo nn_geo) (fun _ => rfl) (a_cons (e_loc rfl lk_moves_at_table nn_table) (fun _ => rfl) (a_cons (e_loc rfl lk_moves_at_strong nn_strong) (fun _ => rfl) (a_cons (e_loc rfl lk_moves_at_piece nn_piece) (fun _ => rfl) (a_cons (e_loc rfl lk_moves_at_weak nn_weak) (fun _ => rfl) a_nil))))) nofun tb.fn_weak_moves tb.kp_weak_moves lk_moves_at_weak_moves nn_weak_moves))
   b_nil) b_nil)
   (b_cons (s_ret (e_call (snd_strong_moves ok tb) (by decide) (a_cons (e_loc rfl lk_moves_at_geo nn_geo) (fun _ => rfl) (a_cons (e_loc rfl lk_moves_at_table nn_table) (fun _ => rfl) (a_cons (e_loc rfl lk_moves_at_kind nn_kind) (fun _ => rfl) (a_cons (e_loc rfl lk_moves_at_strong nn_strong) (fun _ => rfl) (a_cons (e_loc rfl lk_moves_at_piece nn_piece) (fun _ => rfl) (a_cons (e_loc rfl lk_moves_at_weak nn_weak) (fun _ => rfl) a_nil)))))) nofun tb.fn_strong_moves tb.kp_strong_moves lk_moves_at_strong_moves nn_strong_moves))
   b_nil))
theorem snd_moves_at : SndF C 16 f_moves_at d_moves_at :=
  fn_sound (pn := [Str.ofString "geo", Str.ofString "table", Str.ofString "kind", Str.ofString "side", Str.ofString "strong", Str.ofString "piece", Str.ofString "weak"]) (ns' := ns_moves_at) ⟨tb.at_moves_at, rfl, rfl, rfl, (by decide +kernel), (by decide +kernel), (by decide +kernel)⟩ (by decide +kernel) rfl (sb_moves_at ok tb) (by decide)
theorem sb_build_zone : SndB C 16 scope_build_zone ns_build_zone body_build_zone b_build_zone :=
  (b_cons (s_if (t_or (t_cmp sc_lt (e_loc rfl lk_build_zone_kind nn_kind) (e_globE tb.g_KNIGHT lk_build_zone_KNIGHT nn_KNIGHT) rfl) (t_or1 (t_cmp sc_gt (e_loc rfl lk_build_zone_kind nn_kind) (e_globE tb.g_QUEEN lk_build_zone_QUEEN nn_QUEEN) rfl))) (b_cons s_bad
   b_nil) b_nil)
   (b_cons (s_asg nd_build_zone rfl lk_build_zone_half (e_bin sop_mul (e_bin sop_mul (e_attr ok (e_loc rfl lk_build_zone_geo nn_geo) (fun _ => rfl) rfl) (e_attr ok (e_loc rfl lk_build_zone_geo nn_geo) (fun _ => rfl) rfl)) (e_attr ok (e_loc rfl lk_build_zone_geo nn_geo) (fun _ => rfl) rfl)) (fun _ _ => rfl))
   (b_cons (s_asg nd_build_zone rfl lk_build_zone_table (e_rep (e_lst (a_cons (e_globE tb.g_NOT_A_PLACE lk_build_zone_NOT_A_PLACE nn_NOT_A_PLACE) (fun _ => rfl) a_nil)) (e_bin sop_mul e_int (e_loc rfl lk_build_zone_half nn_half))) (fun _ _ => rfl))
   (b_cons (s_asg nd_build_zone rfl lk_build_zone_places (e_call (snd_mark_places ok tb) (by decide) (a_cons (e_loc rfl lk_build_zone_geo nn_geo) (fun _ => rfl) (a_cons (e_loc rfl lk_build_zone_kind nn_kind) (fun _ => rfl) (a_cons (e_loc rfl lk_build_zone_zone nn_zone) (fun _ => rfl) (a_cons (e_loc rfl lk_build_zone_table nn_table) (fun _ => rfl) a_nil)))) nofun tb.fn_mark_places tb.kp_mark_places lk_build_zone_mark_places nn_mark_places) (fun _ _ => rfl))
   (b_cons (s_asg nd_build_zone rfl lk_build_zone_where (e_dict1 (e_globE tb.g_OUTSIDE lk_build_zone_OUTSIDE nn_OUTSIDE) (e_globE tb.g_OUTSIDE lk_build_zone_OUTSIDE nn_OUTSIDE)) (fun _ _ => rfl))
   (b_cons (s_forR nd_build_zone rfl lk_build_zone_k (e_rng1 (a_cons (e_len (a_cons (e_loc rfl lk_build_zone_places nn_places) (fun _ => rfl) a_nil) tb.b_len lk_build_zone_len) (fun _ => rfl) a_nil) tb.b_range lk_build_zone_range) (fun _ _ => rfl) (b_cons (s_subD (e_loc rfl lk_build_zone_where nn_where) (e_subL (e_loc rfl lk_build_zone_places nn_places) (e_loc rfl lk_build_zone_k nn_k) (fun _ _ => rfl)) (e_loc rfl lk_build_zone_k nn_k) (fun _ _ => rfl))
   b_nil))
   (b_cons (s_asg nd_build_zone rfl lk_build_zone_sides (e_lst a_nil) (fun _ _ => rfl))
   (b_cons (s_asg nd_build_zone rfl lk_build_zone_after (e_lst a_nil) (fun _ _ => rfl))
   (b_cons (s_asg nd_build_zone rfl lk_build_zone_lost (e_lst a_nil) (fun _ _ => rfl))
   (b_cons (s_forL nd_build_zone rfl lk_build_zone_n (e_loc rfl lk_build_zone_places nn_places) (fun _ _ => rfl) (b_cons (s_unp nd_build_zone (.cons rfl lk_build_zone_side (.cons rfl lk_build_zone_strong (.cons rfl lk_build_zone_piece (.cons rfl lk_build_zone_weak .nil)))) (e_call (snd_parts_of ok tb) (by decide) (a_cons (e_attr ok (e_loc rfl lk_build_zone_geo nn_geo) (fun _ => rfl) rfl) (fun _ => rfl) (a_cons (e_loc rfl lk_build_zone_n nn_n) (fun _ => rfl) a_nil)) nofun tb.fn_parts_of tb.kp_parts_of lk_build_zone_parts_of nn_parts_of) (fun _ _ => rfl) (fun _ => rfl))
   (b_cons (s_asg nd_build_zone rfl lk_build_zone_row (e_lst a_nil) (fun _ _ => rfl))
   (b_cons (s_forT nd_build_zone (.cons rfl lk_build_zone_origin (.cons rfl lk_build_zone_goal (.cons rfl lk_build_zone_place .nil))) (e_call (snd_moves_at ok tb) (by decide) (a_cons (e_loc rfl lk_build_zone_geo nn_geo) (fun _ => rfl) (a_cons (e_loc rfl lk_build_zone_table nn_table) (fun _ => rfl) (a_cons (e_loc rfl lk_build_zone_kind nn_kind) (fun _ => rfl) (a_cons (e_loc rfl lk_build_zone_side nn_side) (fun _ => rfl) (a_cons (e_loc rfl lk_build_zone_strong nn_strong) (fun _ => rfl) (a_cons (e_loc rfl lk_build_zone_piece nn_piece) (fun _ => rfl) (a_cons (e_loc rfl lk_build_zone_weak nn_weak) (fun _ => rfl) a_nil))))))) nofun tb.fn_moves_at tb.kp_moves_at lk_build_zone_moves_at nn_moves_at) (fun _ _ => rfl) (b_cons (s_expr (e_app (e_loc rfl lk_build_zone_row nn_row) (e_subD (e_loc rfl lk_build_zone_where nn_where) (e_loc rfl lk_build_zone_place nn_place) (fun _ _ => rfl)) (fun _ => rfl) (fun _ => rfl) rfl) (fun _ _ => rfl))
   b_nil))
   (b_cons (s_expr (e_app (e_loc rfl lk_build_zone_sides nn_sides) (e_loc rfl lk_build_zone_side nn_side) (fun _ => rfl) (fun _ => rfl) rfl) (fun _ _ => rfl))
   (b_cons (s_expr (e_app (e_loc rfl lk_build_zone_after nn_after) (e_loc rfl lk_build_zone_row nn_row) (fun _ => rfl) (fun _ => rfl) rfl) (fun _ _ => rfl))
   (b_cons (s_expr (e_app (e_loc rfl lk_build_zone_lost nn_lost) (e_and (e_cmp sc_eq (e_loc rfl lk_build_zone_side nn_side) (e_globE tb.g_WEAK_MOVES lk_build_zone_WEAK_MOVES nn_WEAK_MOVES) rfl) (e_and (e_eqnil (e_loc rfl lk_build_zone_row nn_row) (e_lst a_nil) rfl) (e_and1 (e_cmp sc_eq (e_subL (e_loc rfl lk_build_zone_table nn_table) (e_bin sop_sub (e_loc rfl lk_build_zone_n nn_n) (e_loc rfl lk_build_zone_half nn_half)) (fun _ _ => rfl)) (e_globE tb.g_NOT_A_PLACE lk_build_zone_NOT_A_PLACE nn_NOT_A_PLACE) rfl)))) (fun _ => rfl) (fun _ => rfl) rfl) (fun _ _ => rfl))
   b_nil)))))))
   (b_cons (s_asg nd_build_zone rfl lk_build_zone_values (e_call (snd_solve ok tb) (by decide) (a_cons (e_loc rfl lk_build_zone_sides nn_sides) (fun _ => rfl) (a_cons (e_loc rfl lk_build_zone_after nn_after) (fun _ => rfl) (a_cons (e_loc rfl lk_build_zone_lost nn_lost) (fun _ => rfl) a_nil))) nofun tb.fn_solve tb.kp_solve lk_build_zone_solve nn_solve) (fun _ _ => rfl))
   (b_cons (s_forR nd_build_zone rfl lk_build_zone_k (e_rng1 (a_cons (e_len (a_cons (e_loc rfl lk_build_zone_places nn_places) (fun _ => rfl) a_nil) tb.b_len lk_build_zone_len) (fun _ => rfl) a_nil) tb.b_range lk_build_zone_range) (fun _ _ => rfl) (b_cons (s_subL (e_loc rfl lk_build_zone_table nn_table) (e_subL (e_loc rfl lk_build_zone_places nn_places) (e_loc rfl lk_build_zone_k nn_k) (fun _ _ => rfl)) (e_subL (e_loc rfl lk_build_zone_values nn_values) (e_loc rfl lk_build_zone_k nn_k) (fun _ _ => rfl)) (fun _ _ => rfl))
   b_nil))
   (b_cons (s_ret (e_loc rfl lk_build_zone_table nn_table))
   b_nil)))))))))))))
theorem snd_build_zone : SndF C 18 f_build_zone d_build_zone :=
  fn_sound (pn := [Str.ofString "geo", Str.ofString "kind", Str.ofString "zone"]) (ns' := ns_build_zone) ⟨tb.at_build_zone, rfl, rfl, rfl, (by decide +kernel), (by decide +kernel), (by decide +kernel)⟩ (by decide +kernel) rfl (sb_build_zone ok tb) (by decide)
theorem sb_law_image : SndB C 0 scope_law_image ns_law_image body_law_image b_law_image :=
  (b_cons (s_unpR nd_law_image (.cons rfl lk_law_image_ranks (.cons rfl lk_law_image_files .nil)) (e_tup (a_cons (e_bin sop_mod (e_loc rfl lk_law_image_square nn_square) e_int) (fun _ => rfl) (a_cons (e_bin sop_div (e_loc rfl lk_law_image_square nn_square) e_int) (fun _ => rfl) a_nil))) (fun _ _ => rfl) (fun _ _ _ _ => rfl))
   (b_cons (s_ret (e_bin sop_add (e_ite (t_cmp sc_eq (e_loc rfl lk_law_image_turn nn_turn) e_int rfl) (e_loc rfl lk_law_image_files nn_files) (e_bin sop_sub e_int (e_loc rfl lk_law_image_files nn_files))) (e_bin sop_mul e_int (e_ite (t_cmp sc_eq (e_loc rfl lk_law_image_turn nn_turn) e_int rfl) (e_loc rfl lk_law_image_ranks nn_ranks) (e_bin sop_sub e_int (e_loc rfl lk_law_image_ranks nn_ranks))))))
   b_nil))
theorem snd_law_image : SndF C 2 f_law_image d_law_image :=
  fn_sound (pn := [Str.ofString "square", Str.ofString "turn"]) (ns' := ns_law_image) ⟨tb.at_law_image, rfl, rfl, rfl, (by decide +kernel), (by decide +kernel), (by decide +kernel)⟩ (by decide +kernel) rfl (sb_law_image ok tb) (by decide)
theorem sb_law3 : SndB C 18 scope_law ns_law (body_law.drop 2) (sSeq b_law3 b_lawR) :=
  (b_cons (s_asg nd_law rfl lk_law_table (e_call (snd_build_zone ok tb) (by decide) (a_cons (e_call (snd_make_geometry ok tb) (by decide) (a_cons e_int (fun _ => rfl) (a_cons e_int (fun _ => rfl) (a_cons e_bool (fun _ => rfl) (a_cons e_bool (fun _ => rfl) a_nil)))) nofun tb.fn_make_geometry tb.kp_make_geometry lk_law_make_geometry nn_make_geometry) (fun _ => rfl) (a_cons (e_loc rfl lk_law_kind nn_kind) (fun _ => rfl) (a_cons (e_bin sop_or (e_bin sop_shl e_int (e_loc rfl lk_law_square nn_square)) (e_bin sop_shl e_int (e_call (snd_law_image ok tb) (by decide) (a_cons (e_loc rfl lk_law_square nn_square) (fun _ => rfl) (a_cons (e_loc rfl lk_law_turn nn_turn) (fun _ => rfl) a_nil)) nofun tb.fn_law_image tb.kp_law_image lk_law__law_image nn__law_image))) (fun _ => rfl) a_nil))) nofun tb.fn_build_zone tb.kp_build_zone lk_law_build_zone nn_build_zone) (fun _ _ => rfl))
   (b_cons (s_forR nd_law rfl lk_law_number (e_rng1 (a_cons e_int (fun _ => rfl) a_nil) tb.b_range lk_law_range) (fun _ _ => rfl) (b_cons (s_unpR nd_law (.cons rfl lk_law_weak (.cons rfl lk_law_piece (.cons rfl lk_law_side .nil))) (e_tup (a_cons (e_bin sop_div (e_loc rfl lk_law_number nn_number) e_int) (fun _ => rfl) (a_cons (e_bin sop_mod (e_bin sop_div (e_loc rfl lk_law_number nn_number) e_int) e_int) (fun _ => rfl) (a_cons (e_bin sop_mod (e_loc rfl lk_law_number nn_number) e_int) (fun _ => rfl) a_nil)))) (fun _ _ => rfl) (fun _ _ _ _ => rfl))
   (b_cons (s_asg nd_law rfl lk_law_told (e_subL (e_loc rfl lk_law_table nn_table) (e_call (snd_index_of ok tb) (by decide) (a_cons e_int (fun _ => rfl) (a_cons (e_loc rfl lk_law_side nn_side) (fun _ => rfl) (a_cons (e_loc rfl lk_law_square nn_square) (fun _ => rfl) (a_cons (e_loc rfl lk_law_piece nn_piece) (fun _ => rfl) (a_cons (e_loc rfl lk_law_weak nn_weak) (fun _ => rfl) a_nil))))) nofun tb.fn_index_of tb.kp_index_of lk_law_index_of nn_index_of) (fun _ _ => rfl)) (fun _ _ => rfl))
   (b_cons (s_asg nd_law rfl lk_law_image (e_call (snd_index_of ok tb) (by decide) (a_cons e_int (fun _ => rfl) (a_cons (e_loc rfl lk_law_side nn_side) (fun _ => rfl) (a_cons (e_call (snd_law_image ok tb) (by decide) (a_cons (e_loc rfl lk_law_square nn_square) (fun _ => rfl) (a_cons (e_loc rfl lk_law_turn nn_turn) (fun _ => rfl) a_nil)) nofun tb.fn_law_image tb.kp_law_image lk_law__law_image nn__law_image) (fun _ => rfl) (a_cons (e_call (snd_law_image ok tb) (by decide) (a_cons (e_loc rfl lk_law_piece nn_piece) (fun _ => rfl) (a_cons (e_loc rfl lk_law_turn nn_turn) (fun _ => rfl) a_nil)) nofun tb.fn_law_image tb.kp_law_image lk_law__law_image nn__law_image) (fun _ => rfl) (a_cons (e_call (snd_law_image ok tb) (by decide) (a_cons (e_loc rfl lk_law_weak nn_weak) (fun _ => rfl) (a_cons (e_loc rfl lk_law_turn nn_turn) (fun _ => rfl) a_nil)) nofun tb.fn_law_image tb.kp_law_image lk_law__law_image nn__law_image) (fun _ => rfl) a_nil))))) nofun tb.fn_index_of tb.kp_index_of lk_law_index_of nn_index_of) (fun _ _ => rfl))
   (b_cons (s_if (t_cmp sc_ne (e_loc rfl lk_law_told nn_told) (e_subL (e_loc rfl lk_law_table nn_table) (e_loc rfl lk_law_image nn_image) (fun _ _ => rfl)) rfl) (b_cons (s_ret e_bool)
   b_nil) b_nil)
   (b_cons (s_if (t_and (t_or (t_in (e_loc rfl lk_law_square nn_square) (a_cons (e_loc rfl lk_law_piece nn_piece) (fun _ => rfl) (a_cons (e_loc rfl lk_law_weak nn_weak) (fun _ => rfl) a_nil))) (t_or1 (t_cmp sc_eq (e_loc rfl lk_law_piece nn_piece) (e_loc rfl lk_law_weak nn_weak) rfl))) (t_and1 (t_cmp sc_ne (e_loc rfl lk_law_told nn_told) (e_globE tb.g_NOT_A_PLACE lk_law_NOT_A_PLACE nn_NOT_A_PLACE) rfl))) (b_cons (s_ret e_bool)
   b_nil) b_nil)
   (b_cons (s_if (t_and (t_notin (e_loc rfl lk_law_told nn_told) (a_cons (e_globE tb.g_NOT_A_PLACE lk_law_NOT_A_PLACE nn_NOT_A_PLACE) (fun _ => rfl) (a_cons (e_globE tb.g_NO_MATE lk_law_NO_MATE nn_NO_MATE) (fun _ => rfl) a_nil))) (t_and1 (t_cmp sc_ne (e_bin sop_mod (e_loc rfl lk_law_told nn_told) e_int) (e_toInt (a_cons (e_cmp sc_eq (e_loc rfl lk_law_side nn_side) (e_globE tb.g_STRONG_MOVES lk_law_STRONG_MOVES nn_STRONG_MOVES) rfl) (fun _ => rfl) a_nil) tb.b_int lk_law_int) rfl))) (b_cons (s_ret e_bool)
   b_nil) b_nil)
   b_nil)))))))
   (b_cons (s_ret e_bool)
   b_nil)))
end
end Mine

namespace Mine
structure GeoOk (K : Frag) (geo : Addr) : Prop where
  hasDict : hasDictIn K geo = true
  get0 : plainGet K geo (Str.ofString "files") = true
  cls0 : findIn K (.ref geo) (Str.ofString "files") = some none
  taker0 : takerIn K geo (Str.ofString "files") = some none
  get1 : plainGet K geo (Str.ofString "ranks") = true
  cls1 : findIn K (.ref geo) (Str.ofString "ranks") = some none
  taker1 : takerIn K geo (Str.ofString "ranks") = some none
  get2 : plainGet K geo (Str.ofString "size") = true
  cls2 : findIn K (.ref geo) (Str.ofString "size") = some none
  taker2 : takerIn K geo (Str.ofString "size") = some none
  get3 : plainGet K geo (Str.ofString "full") = true
  cls3 : findIn K (.ref geo) (Str.ofString "full") = some none
  taker3 : takerIn K geo (Str.ofString "full") = some none
  get4 : plainGet K geo (Str.ofString "has_double") = true
  cls4 : findIn K (.ref geo) (Str.ofString "has_double") = some none
  taker4 : takerIn K geo (Str.ofString "has_double") = some none
  get5 : plainGet K geo (Str.ofString "has_castling") = true
  cls5 : findIn K (.ref geo) (Str.ofString "has_castling") = some none
  taker5 : takerIn K geo (Str.ofString "has_castling") = some none
  get6 : plainGet K geo (Str.ofString "file_masks") = true
  cls6 : findIn K (.ref geo) (Str.ofString "file_masks") = some none
  taker6 : takerIn K geo (Str.ofString "file_masks") = some none
  get7 : plainGet K geo (Str.ofString "rank_masks") = true
  cls7 : findIn K (.ref geo) (Str.ofString "rank_masks") = some none
  taker7 : takerIn K geo (Str.ofString "rank_masks") = some none
  get8 : plainGet K geo (Str.ofString "rays") = true
  cls8 : findIn K (.ref geo) (Str.ofString "rays") = some none
  taker8 : takerIn K geo (Str.ofString "rays") = some none
  get9 : plainGet K geo (Str.ofString "king") = true
  cls9 : findIn K (.ref geo) (Str.ofString "king") = some none
  taker9 : takerIn K geo (Str.ofString "king") = some none
  get10 : plainGet K geo (Str.ofString "knight") = true
  cls10 : findIn K (.ref geo) (Str.ofString "knight") = some none
  taker10 : takerIn K geo (Str.ofString "knight") = some none
  get11 : plainGet K geo (Str.ofString "pawn") = true
  cls11 : findIn K (.ref geo) (Str.ofString "pawn") = some none
  taker11 : takerIn K geo (Str.ofString "pawn") = some none
  get12 : plainGet K geo (Str.ofString "castles") = true
  cls12 : findIn K (.ref geo) (Str.ofString "castles") = some none
  taker12 : takerIn K geo (Str.ofString "castles") = some none
  get13 : plainGet K geo (Str.ofString "rights_lost") = true
  cls13 : findIn K (.ref geo) (Str.ofString "rights_lost") = some none
  taker13 : takerIn K geo (Str.ofString "rights_lost") = some none
  setattr : findIn K (.ref geo) "__setattr__" = some (some (.builtin "object.__setattr__"))
  over : plainOver K geo = true
  makes : makesIn K geo = true
theorem GeoOk.cx {C : Cx} (g : GeoOk C.K C.geo) : CxOk C where
  hasDict := g.hasDict
  get := fun _ => g.get0
  cls := fun x hx => by
    simp only [fieldNames, List.mem_cons, List.not_mem_nil, or_false] at hx
    rcases hx with rfl | rfl | rfl | rfl | rfl | rfl | rfl | rfl | rfl | rfl | rfl | rfl | rfl | rfl
    · exact g.cls0
    · exact g.cls1
    · exact g.cls2
    · exact g.cls3
    · exact g.cls4
    · exact g.cls5
    · exact g.cls6
    · exact g.cls7
    · exact g.cls8
    · exact g.cls9
    · exact g.cls10
    · exact g.cls11
    · exact g.cls12
    · exact g.cls13
  setattr := g.setattr
  over := g.over
  taker := fun x hx => by
    simp only [fieldNames, List.mem_cons, List.not_mem_nil, or_false] at hx
    rcases hx with rfl | rfl | rfl | rfl | rfl | rfl | rfl | rfl | rfl | rfl | rfl | rfl | rfl | rfl
    · exact g.taker0
    · exact g.taker1
    · exact g.taker2
    · exact g.taker3
    · exact g.taker4
    · exact g.taker5
    · exact g.taker6
    · exact g.taker7
    · exact g.taker8
    · exact g.taker9
    · exact g.taker10
    · exact g.taker11
    · exact g.taker12
    · exact g.taker13
  makes := g.makes

def law0 (k s t : Int) : MEnv := [.unb, .unb, .int k, .int s, .int t, .unb, .unb, .unb, .unb, .unb, .unb, .unb]
noncomputable def runLaw (k s t : Int) : Bool := sSeq b_law3 b_lawR (law0 k s t) ⟨0, .nil⟩ (fun _ _ => false) (fun _ _ => false) (fun v _ => asB v fun b => b)

theorem law_end {prog : Program} {w : World} {K : Frag} {p : Program} {loose : List Str} {mean : ExcName → Option Value} {mg mb : Str → Option Value} {geo f_init f_is_growing f_add_masks f_inner_squares f_add_rays f_add_pawns f_add_knights f_add_castles f_make_geometry f_ray_attacks f_rook_attacks f_bishop_attacks f_queen_attacks f_slider_attacks f_piece_attacks f_solve f_index_of f_parts_of f_mark_places f_weak_moves f_strong_moves f_moves_at f_build_zone f_law_image : Addr} (go : GeoOk K geo) (tb : Tab K geo f_init f_is_growing f_add_masks f_inner_squares f_add_rays f_add_pawns f_add_knights f_add_castles f_make_geometry f_ray_attacks f_rook_attacks f_bishop_attacks f_queen_attacks f_slider_attacks f_piece_attacks f_solve f_index_of f_parts_of f_mark_places f_weak_moves f_strong_moves f_moves_at f_build_zone f_law_image)
    {h₁ : Heap} {s : Shared} {L fa : Addr} {m : Str → Option Value} {X : List (Addr × Obj)} {qual : Str} {cdv : Value} {Q : Flow → Shared → Prop} {E : Value → Shared → Prop} {k x y : Int} {t₁ t₂ t₃ : Tok}
    (KX : K.In h₁) (T : Top p loose mean mg mb h₁) (F : Fr h₁ L s.heap m) (N : News h₁ L s.heap X) (hk : m (Str.ofString "kind") = some (.int k t₁)) (hx : m (Str.ofString "square") = some (.int x t₂)) (hy : m (Str.ofString "turn") = some (.int y t₃))
    (hr : runLaw k x y = true) (hQ : ∀ h' tk m', Fr h₁ L h' m' → Q (.ret (.bool true)) { s with heap := h', toks := tk }) :
    wpAny (model prog w) (callerA.deeper (envOf qual scope_law L fa cdv)) (execs (body_law.drop 2) (envOf qual scope_law L fa cdv)) Q E s := by
  have ok : CxOk ⟨prog, w, K, p, loose, mean, mg, mb, geo⟩ := GeoOk.cx go
  have sb := sb_law3 ok tb
  refine sb.go _ _ ⟨h₁, X⟩ L ⟨⟨_, _, _, rfl⟩, rfl, rfl, Nat.le_of_ble_eq_true rfl, Nat.le_of_ble_eq_true rfl, ⟨callerA, h₁, [], below_caller h₁, Around.frames_deeper rfl⟩, KX, T⟩ (law0 k x y) ⟨0, .nil⟩ [] s (fun _ _ => false) (fun _ _ => false) (fun v _ => asB v fun b => b) Q E hr
    ⟨m, [], F, N, ⟨rfl, List.nodup_nil, rfl, fun i x o h => by simp at h⟩, fun i z hz => ?_, fun q _ h => by simp at h⟩ (fun ρ' σ' β' s' h => by cases h) (fun ρ' σ' β' s' h => by cases h) ?_
  · match i, hz with
    | 0, _ => exact .inl rfl
    | 1, _ => exact .inl rfl
    | 2, hz => obtain rfl : Str.ofString "kind" = z := Option.some.inj hz; exact .inr ⟨_, hk, t₁, rfl⟩
    | 3, hz => obtain rfl : Str.ofString "square" = z := Option.some.inj hz; exact .inr ⟨_, hx, t₂, rfl⟩
    | 4, hz => obtain rfl : Str.ofString "turn" = z := Option.some.inj hz; exact .inr ⟨_, hy, t₃, rfl⟩
    | i + 5, _ => exact .inl (get_unbs 7 i)
  · intro v ρ₂ σ₂ β₂ V s₂ h₂ p₂ e₂ m₂ S₂
    obtain ⟨b, rfl, hb⟩ := asB_true (v := v) h₂
    obtain rfl : V = .bool b := e₂
    subst hb
    obtain ⟨h', tk, rfl⟩ := m₂
    obtain ⟨m', news, F', _, _, _⟩ := S₂.ex
    exact hQ h' tk m' F'

end Mine

set_option maxRecDepth 1000000

namespace Mine
theorem c_4_0_0 : runLaw (.ofNat 4) (.ofNat 0) (.ofNat 0) = true := by decide +kernel
theorem c_4_0_1 : runLaw (.ofNat 4) (.ofNat 0) (.ofNat 1) = true := by decide +kernel
theorem c_4_0_2 : runLaw (.ofNat 4) (.ofNat 0) (.ofNat 2) = true := by decide +kernel
theorem c_4_1_0 : runLaw (.ofNat 4) (.ofNat 1) (.ofNat 0) = true := by decide +kernel
theorem c_4_1_1 : runLaw (.ofNat 4) (.ofNat 1) (.ofNat 1) = true := by decide +kernel
theorem c_4_1_2 : runLaw (.ofNat 4) (.ofNat 1) (.ofNat 2) = true := by decide +kernel
theorem c_4_2_0 : runLaw (.ofNat 4) (.ofNat 2) (.ofNat 0) = true := by decide +kernel
theorem c_4_2_1 : runLaw (.ofNat 4) (.ofNat 2) (.ofNat 1) = true := by decide +kernel
theorem c_4_2_2 : runLaw (.ofNat 4) (.ofNat 2) (.ofNat 2) = true := by decide +kernel
theorem c_4_3_0 : runLaw (.ofNat 4) (.ofNat 3) (.ofNat 0) = true := by decide +kernel
theorem c_4_3_1 : runLaw (.ofNat 4) (.ofNat 3) (.ofNat 1) = true := by decide +kernel
theorem c_4_3_2 : runLaw (.ofNat 4) (.ofNat 3) (.ofNat 2) = true := by decide +kernel
theorem c_4_4_0 : runLaw (.ofNat 4) (.ofNat 4) (.ofNat 0) = true := by decide +kernel
theorem c_4_4_1 : runLaw (.ofNat 4) (.ofNat 4) (.ofNat 1) = true := by decide +kernel
theorem c_4_4_2 : runLaw (.ofNat 4) (.ofNat 4) (.ofNat 2) = true := by decide +kernel
theorem c_4_5_0 : runLaw (.ofNat 4) (.ofNat 5) (.ofNat 0) = true := by decide +kernel
theorem c_4_5_1 : runLaw (.ofNat 4) (.ofNat 5) (.ofNat 1) = true := by decide +kernel
theorem c_4_5_2 : runLaw (.ofNat 4) (.ofNat 5) (.ofNat 2) = true := by decide +kernel
theorem run_4 (x y : Int) (hx : 0 ≤ x) (hx' : x < 6) (hy : 0 ≤ y) (hy' : y < 3) : runLaw 4 x y = true := by
  obtain ⟨s, rfl⟩ := Int.eq_ofNat_of_zero_le hx
  obtain ⟨t, rfl⟩ := Int.eq_ofNat_of_zero_le hy
  match s, t, hx', hy' with
  | 0, 0, _, _ => exact c_4_0_0
  | 0, 1, _, _ => exact c_4_0_1
  | 0, 2, _, _ => exact c_4_0_2
  | 1, 0, _, _ => exact c_4_1_0
  | 1, 1, _, _ => exact c_4_1_1
  | 1, 2, _, _ => exact c_4_1_2
  | 2, 0, _, _ => exact c_4_2_0
  | 2, 1, _, _ => exact c_4_2_1
  | 2, 2, _, _ => exact c_4_2_2
  | 3, 0, _, _ => exact c_4_3_0
  | 3, 1, _, _ => exact c_4_3_1
  | 3, 2, _, _ => exact c_4_3_2
  | 4, 0, _, _ => exact c_4_4_0
  | 4, 1, _, _ => exact c_4_4_1
  | 4, 2, _, _ => exact c_4_4_2
  | 5, 0, _, _ => exact c_4_5_0
  | 5, 1, _, _ => exact c_4_5_1
  | 5, 2, _, _ => exact c_4_5_2
  | s + 6, _, h, _ => exact absurd h (by omega)
  | _, t + 3, _, h => exact absurd h (by omega)
theorem c_5_0_0 : runLaw (.ofNat 5) (.ofNat 0) (.ofNat 0) = true := by decide +kernel
theorem c_5_0_1 : runLaw (.ofNat 5) (.ofNat 0) (.ofNat 1) = true := by decide +kernel
theorem c_5_0_2 : runLaw (.ofNat 5) (.ofNat 0) (.ofNat 2) = true := by decide +kernel
theorem c_5_1_0 : runLaw (.ofNat 5) (.ofNat 1) (.ofNat 0) = true := by decide +kernel
theorem c_5_1_1 : runLaw (.ofNat 5) (.ofNat 1) (.ofNat 1) = true := by decide +kernel
theorem c_5_1_2 : runLaw (.ofNat 5) (.ofNat 1) (.ofNat 2) = true := by decide +kernel
theorem c_5_2_0 : runLaw (.ofNat 5) (.ofNat 2) (.ofNat 0) = true := by decide +kernel
theorem c_5_2_1 : runLaw (.ofNat 5) (.ofNat 2) (.ofNat 1) = true := by decide +kernel
theorem c_5_2_2 : runLaw (.ofNat 5) (.ofNat 2) (.ofNat 2) = true := by decide +kernel
theorem c_5_3_0 : runLaw (.ofNat 5) (.ofNat 3) (.ofNat 0) = true := by decide +kernel
theorem c_5_3_1 : runLaw (.ofNat 5) (.ofNat 3) (.ofNat 1) = true := by decide +kernel
theorem c_5_3_2 : runLaw (.ofNat 5) (.ofNat 3) (.ofNat 2) = true := by decide +kernel
theorem c_5_4_0 : runLaw (.ofNat 5) (.ofNat 4) (.ofNat 0) = true := by decide +kernel
theorem c_5_4_1 : runLaw (.ofNat 5) (.ofNat 4) (.ofNat 1) = true := by decide +kernel
theorem c_5_4_2 : runLaw (.ofNat 5) (.ofNat 4) (.ofNat 2) = true := by decide +kernel
theorem c_5_5_0 : runLaw (.ofNat 5) (.ofNat 5) (.ofNat 0) = true := by decide +kernel
theorem c_5_5_1 : runLaw (.ofNat 5) (.ofNat 5) (.ofNat 1) = true := by decide +kernel
theorem c_5_5_2 : runLaw (.ofNat 5) (.ofNat 5) (.ofNat 2) = true := by decide +kernel
theorem run_5 (x y : Int) (hx : 0 ≤ x) (hx' : x < 6) (hy : 0 ≤ y) (hy' : y < 3) : runLaw 5 x y = true := by
  obtain ⟨s, rfl⟩ := Int.eq_ofNat_of_zero_le hx
  obtain ⟨t, rfl⟩ := Int.eq_ofNat_of_zero_le hy
  match s, t, hx', hy' with
  | 0, 0, _, _ => exact c_5_0_0
  | 0, 1, _, _ => exact c_5_0_1
  | 0, 2, _, _ => exact c_5_0_2
  | 1, 0, _, _ => exact c_5_1_0
  | 1, 1, _, _ => exact c_5_1_1
  | 1, 2, _, _ => exact c_5_1_2
  | 2, 0, _, _ => exact c_5_2_0
  | 2, 1, _, _ => exact c_5_2_1
  | 2, 2, _, _ => exact c_5_2_2
  | 3, 0, _, _ => exact c_5_3_0
  | 3, 1, _, _ => exact c_5_3_1
  | 3, 2, _, _ => exact c_5_3_2
  | 4, 0, _, _ => exact c_5_4_0
  | 4, 1, _, _ => exact c_5_4_1
  | 4, 2, _, _ => exact c_5_4_2
  | 5, 0, _, _ => exact c_5_5_0
  | 5, 1, _, _ => exact c_5_5_1
  | 5, 2, _, _ => exact c_5_5_2
  | s + 6, _, h, _ => exact absurd h (by omega)
  | _, t + 3, _, h => exact absurd h (by omega)
theorem c_3_0_0 : runLaw (.ofNat 3) (.ofNat 0) (.ofNat 0) = true := by decide +kernel
theorem c_3_0_1 : runLaw (.ofNat 3) (.ofNat 0) (.ofNat 1) = true := by decide +kernel
theorem c_3_0_2 : runLaw (.ofNat 3) (.ofNat 0) (.ofNat 2) = true := by decide +kernel
theorem c_3_1_0 : runLaw (.ofNat 3) (.ofNat 1) (.ofNat 0) = true := by decide +kernel
theorem c_3_1_1 : runLaw (.ofNat 3) (.ofNat 1) (.ofNat 1) = true := by decide +kernel
theorem c_3_1_2 : runLaw (.ofNat 3) (.ofNat 1) (.ofNat 2) = true := by decide +kernel
theorem c_3_2_0 : runLaw (.ofNat 3) (.ofNat 2) (.ofNat 0) = true := by decide +kernel
theorem c_3_2_1 : runLaw (.ofNat 3) (.ofNat 2) (.ofNat 1) = true := by decide +kernel
theorem c_3_2_2 : runLaw (.ofNat 3) (.ofNat 2) (.ofNat 2) = true := by decide +kernel
theorem c_3_3_0 : runLaw (.ofNat 3) (.ofNat 3) (.ofNat 0) = true := by decide +kernel
theorem c_3_3_1 : runLaw (.ofNat 3) (.ofNat 3) (.ofNat 1) = true := by decide +kernel
theorem c_3_3_2 : runLaw (.ofNat 3) (.ofNat 3) (.ofNat 2) = true := by decide +kernel
theorem c_3_4_0 : runLaw (.ofNat 3) (.ofNat 4) (.ofNat 0) = true := by decide +kernel
theorem c_3_4_1 : runLaw (.ofNat 3) (.ofNat 4) (.ofNat 1) = true := by decide +kernel
theorem c_3_4_2 : runLaw (.ofNat 3) (.ofNat 4) (.ofNat 2) = true := by decide +kernel
theorem c_3_5_0 : runLaw (.ofNat 3) (.ofNat 5) (.ofNat 0) = true := by decide +kernel
theorem c_3_5_1 : runLaw (.ofNat 3) (.ofNat 5) (.ofNat 1) = true := by decide +kernel
theorem c_3_5_2 : runLaw (.ofNat 3) (.ofNat 5) (.ofNat 2) = true := by decide +kernel
theorem run_3 (x y : Int) (hx : 0 ≤ x) (hx' : x < 6) (hy : 0 ≤ y) (hy' : y < 3) : runLaw 3 x y = true := by
  obtain ⟨s, rfl⟩ := Int.eq_ofNat_of_zero_le hx
  obtain ⟨t, rfl⟩ := Int.eq_ofNat_of_zero_le hy
  match s, t, hx', hy' with
  | 0, 0, _, _ => exact c_3_0_0
  | 0, 1, _, _ => exact c_3_0_1
  | 0, 2, _, _ => exact c_3_0_2
  | 1, 0, _, _ => exact c_3_1_0
  | 1, 1, _, _ => exact c_3_1_1
  | 1, 2, _, _ => exact c_3_1_2
  | 2, 0, _, _ => exact c_3_2_0
  | 2, 1, _, _ => exact c_3_2_1
  | 2, 2, _, _ => exact c_3_2_2
  | 3, 0, _, _ => exact c_3_3_0
  | 3, 1, _, _ => exact c_3_3_1
  | 3, 2, _, _ => exact c_3_3_2
  | 4, 0, _, _ => exact c_3_4_0
  | 4, 1, _, _ => exact c_3_4_1
  | 4, 2, _, _ => exact c_3_4_2
  | 5, 0, _, _ => exact c_3_5_0
  | 5, 1, _, _ => exact c_3_5_1
  | 5, 2, _, _ => exact c_3_5_2
  | s + 6, _, h, _ => exact absurd h (by omega)
  | _, t + 3, _, h => exact absurd h (by omega)
theorem c_2_0_0 : runLaw (.ofNat 2) (.ofNat 0) (.ofNat 0) = true := by decide +kernel
theorem c_2_0_1 : runLaw (.ofNat 2) (.ofNat 0) (.ofNat 1) = true := by decide +kernel
theorem c_2_0_2 : runLaw (.ofNat 2) (.ofNat 0) (.ofNat 2) = true := by decide +kernel
theorem c_2_1_0 : runLaw (.ofNat 2) (.ofNat 1) (.ofNat 0) = true := by decide +kernel
theorem c_2_1_1 : runLaw (.ofNat 2) (.ofNat 1) (.ofNat 1) = true := by decide +kernel
theorem c_2_1_2 : runLaw (.ofNat 2) (.ofNat 1) (.ofNat 2) = true := by decide +kernel
theorem c_2_2_0 : runLaw (.ofNat 2) (.ofNat 2) (.ofNat 0) = true := by decide +kernel
theorem c_2_2_1 : runLaw (.ofNat 2) (.ofNat 2) (.ofNat 1) = true := by decide +kernel
theorem c_2_2_2 : runLaw (.ofNat 2) (.ofNat 2) (.ofNat 2) = true := by decide +kernel
theorem c_2_3_0 : runLaw (.ofNat 2) (.ofNat 3) (.ofNat 0) = true := by decide +kernel
theorem c_2_3_1 : runLaw (.ofNat 2) (.ofNat 3) (.ofNat 1) = true := by decide +kernel
theorem c_2_3_2 : runLaw (.ofNat 2) (.ofNat 3) (.ofNat 2) = true := by decide +kernel
theorem c_2_4_0 : runLaw (.ofNat 2) (.ofNat 4) (.ofNat 0) = true := by decide +kernel
theorem c_2_4_1 : runLaw (.ofNat 2) (.ofNat 4) (.ofNat 1) = true := by decide +kernel
theorem c_2_4_2 : runLaw (.ofNat 2) (.ofNat 4) (.ofNat 2) = true := by decide +kernel
theorem c_2_5_0 : runLaw (.ofNat 2) (.ofNat 5) (.ofNat 0) = true := by decide +kernel
theorem c_2_5_1 : runLaw (.ofNat 2) (.ofNat 5) (.ofNat 1) = true := by decide +kernel
theorem c_2_5_2 : runLaw (.ofNat 2) (.ofNat 5) (.ofNat 2) = true := by decide +kernel
theorem run_2 (x y : Int) (hx : 0 ≤ x) (hx' : x < 6) (hy : 0 ≤ y) (hy' : y < 3) : runLaw 2 x y = true := by
  obtain ⟨s, rfl⟩ := Int.eq_ofNat_of_zero_le hx
  obtain ⟨t, rfl⟩ := Int.eq_ofNat_of_zero_le hy
  match s, t, hx', hy' with
  | 0, 0, _, _ => exact c_2_0_0
  | 0, 1, _, _ => exact c_2_0_1
  | 0, 2, _, _ => exact c_2_0_2
  | 1, 0, _, _ => exact c_2_1_0
  | 1, 1, _, _ => exact c_2_1_1
  | 1, 2, _, _ => exact c_2_1_2
  | 2, 0, _, _ => exact c_2_2_0
  | 2, 1, _, _ => exact c_2_2_1
  | 2, 2, _, _ => exact c_2_2_2
  | 3, 0, _, _ => exact c_2_3_0
  | 3, 1, _, _ => exact c_2_3_1
  | 3, 2, _, _ => exact c_2_3_2
  | 4, 0, _, _ => exact c_2_4_0
  | 4, 1, _, _ => exact c_2_4_1
  | 4, 2, _, _ => exact c_2_4_2
  | 5, 0, _, _ => exact c_2_5_0
  | 5, 1, _, _ => exact c_2_5_1
  | 5, 2, _, _ => exact c_2_5_2
  | s + 6, _, h, _ => exact absurd h (by omega)
  | _, t + 3, _, h => exact absurd h (by omega)
end Mine

set_option maxRecDepth 100000

namespace Mine
theorem len1 {α : Type} {l : List α} (h : l.length = 1) : ∃ a, l = [a] := List.length_eq_one_iff.mp h
theorem len2 {α : Type} {l : List α} (h : l.length = 2) : ∃ a0 a1, l = [a0, a1] := by
  match l, h with
  | [a0, a1], _ => exact ⟨a0, a1, rfl⟩
theorem len3 {α : Type} {l : List α} (h : l.length = 3) : ∃ a0 a1 a2, l = [a0, a1, a2] := by
  match l, h with
  | [a0, a1, a2], _ => exact ⟨a0, a1, a2, rfl⟩
theorem len4 {α : Type} {l : List α} (h : l.length = 4) : ∃ a0 a1 a2 a3, l = [a0, a1, a2, a3] := by
  match l, h with
  | [a0, a1, a2, a3], _ => exact ⟨a0, a1, a2, a3, rfl⟩
theorem len5 {α : Type} {l : List α} (h : l.length = 5) : ∃ a0 a1 a2 a3 a4, l = [a0, a1, a2, a3, a4] := by
  match l, h with
  | [a0, a1, a2, a3, a4], _ => exact ⟨a0, a1, a2, a3, a4, rfl⟩
theorem len6 {α : Type} {l : List α} (h : l.length = 6) : ∃ a0 a1 a2 a3 a4 a5, l = [a0, a1, a2, a3, a4, a5] := by
  match l, h with
  | [a0, a1, a2, a3, a4, a5], _ => exact ⟨a0, a1, a2, a3, a4, a5, rfl⟩
theorem len7 {α : Type} {l : List α} (h : l.length = 7) : ∃ a0 a1 a2 a3 a4 a5 a6, l = [a0, a1, a2, a3, a4, a5, a6] := by
  match l, h with
  | [a0, a1, a2, a3, a4, a5, a6], _ => exact ⟨a0, a1, a2, a3, a4, a5, a6, rfl⟩
theorem mk {K : Frag} {h : Heap} (_ : K.In h) {geo f_init f_is_growing f_add_masks f_inner_squares f_add_rays f_add_pawns f_add_knights f_add_castles f_make_geometry f_ray_attacks f_rook_attacks f_bishop_attacks f_queen_attacks f_slider_attacks f_piece_attacks f_solve f_index_of f_parts_of f_mark_places f_weak_moves f_strong_moves f_moves_at f_build_zone f_law_image : Addr} (f : Tab K geo f_init f_is_growing f_add_masks f_inner_squares f_add_rays f_add_pawns f_add_knights f_add_castles f_make_geometry f_ray_attacks f_rook_attacks f_bishop_attacks f_queen_attacks f_slider_attacks f_piece_attacks f_solve f_index_of f_parts_of f_mark_places f_weak_moves f_strong_moves f_moves_at f_build_zone f_law_image) (g : GeoOk K geo) : ∃ geo f_init f_is_growing f_add_masks f_inner_squares f_add_rays f_add_pawns f_add_knights f_add_castles f_make_geometry f_ray_attacks f_rook_attacks f_bishop_attacks f_queen_attacks f_slider_attacks f_piece_attacks f_solve f_index_of f_parts_of f_mark_places f_weak_moves f_strong_moves f_moves_at f_build_zone f_law_image, Tab K geo f_init f_is_growing f_add_masks f_inner_squares f_add_rays f_add_pawns f_add_knights f_add_castles f_make_geometry f_ray_attacks f_rook_attacks f_bishop_attacks f_queen_attacks f_slider_attacks f_piece_attacks f_solve f_index_of f_parts_of f_mark_places f_weak_moves f_strong_moves f_moves_at f_build_zone f_law_image ∧ GeoOk K geo := ⟨_, _, _, _, _, _, _, _, _, _, _, _, _, _, _, _, _, _, _, _, _, _, _, _, _, f, g⟩
theorem run_any (k x y : Int) (hk : k = 4 ∨ k = 5 ∨ k = 3 ∨ k = 2) (hx : 0 ≤ x) (hx' : x < 6) (hy : 0 ≤ y) (hy' : y < 3) : runLaw k x y = true := by
  rcases hk with rfl | rfl | rfl | rfl
  · exact run_4 x y hx hx' hy hy'
  · exact run_5 x y hx hx' hy hy'
  · exact run_3 x y hx hx' hy hy'
  · exact run_2 x y hx hx' hy hy'
end Mine


set_option maxRecDepth 100000 in
set_option maxHeartbeats 8000000 in
theorem PySem.Challenge.cw_sa0131_01_holds : PySem.Challenge.rw_sa0131_01.Holds := by
  w_on
  o_law
  k_head
  case hw => w_witness2
  k_go0
  rename Frag.In _ _ => KX
  obtain ⟨geo, f_init, f_is_growing, f_add_masks, f_inner_squares, f_add_rays, f_add_pawns, f_add_knights, f_add_castles, f_make_geometry, f_ray_attacks, f_rook_attacks, f_bishop_attacks, f_queen_attacks, f_slider_attacks, f_piece_attacks, f_solve, f_index_of, f_parts_of, f_mark_places, f_weak_moves, f_strong_moves, f_moves_at, f_build_zone, f_law_image, TB, GO⟩ := Mine.mk KX {
    g_BISHOP := ⟨_, by k_is⟩,
    g_KING := ⟨_, by k_is⟩,
    g_KNIGHT := ⟨_, by k_is⟩,
    g_NOT_A_PLACE := ⟨_, by k_is⟩,
    g_NO_MATE := ⟨_, by k_is⟩,
    g_OUTSIDE := ⟨_, by k_is⟩,
    g_PAWN := ⟨_, by k_is⟩,
    g_QUEEN := ⟨_, by k_is⟩,
    g_ROOK := ⟨_, by k_is⟩,
    g_STRONG_MOVES := ⟨_, by k_is⟩,
    g_WEAK_MOVES := ⟨_, by k_is⟩,
    g_WHITE := ⟨_, by k_is⟩,
    g_STEP_FILES := ⟨_, _, by k_is, by k_is, by repeat constructor, by decide⟩,
    g_STEP_RANKS := ⟨_, _, by k_is, by k_is, by repeat constructor, by decide⟩,
    b_len := by k_is,
    b_range := by k_is,
    b_int := by k_is,
    g_Geometry := by k_is,
    k_Geometry := by k_is,
    i_init := by k_is,
    fn_init := by k_is,
    at_init := ⟨_, _, _, _, _, _, _, _, _, _, _, _, by k_is, by k_is, fun Vs hV => by obtain ⟨v0, v1, v2, v3, v4, rfl⟩ := Mine.len5 hV; rfl⟩,
    fn_is_growing := by k_is,
    kp_is_growing := by k_is,
    at_is_growing := ⟨_, _, _, _, _, _, _, _, _, _, _, _, by k_is, by k_is, fun Vs hV => by obtain ⟨v0, rfl⟩ := Mine.len1 hV; rfl⟩,
    fn_add_masks := by k_is,
    kp_add_masks := by k_is,
    at_add_masks := ⟨_, _, _, _, _, _, _, _, _, _, _, _, by k_is, by k_is, fun Vs hV => by obtain ⟨v0, rfl⟩ := Mine.len1 hV; rfl⟩,
    fn_inner_squares := by k_is,
    kp_inner_squares := by k_is,
    at_inner_squares := ⟨_, _, _, _, _, _, _, _, _, _, _, _, by k_is, by k_is, fun Vs hV => by obtain ⟨v0, v1, rfl⟩ := Mine.len2 hV; rfl⟩,
    fn_add_rays := by k_is,
    kp_add_rays := by k_is,
    at_add_rays := ⟨_, _, _, _, _, _, _, _, _, _, _, _, by k_is, by k_is, fun Vs hV => by obtain ⟨v0, rfl⟩ := Mine.len1 hV; rfl⟩,
    fn_add_pawns := by k_is,
    kp_add_pawns := by k_is,
    at_add_pawns := ⟨_, _, _, _, _, _, _, _, _, _, _, _, by k_is, by k_is, fun Vs hV => by obtain ⟨v0, rfl⟩ := Mine.len1 hV; rfl⟩,
    fn_add_knights := by k_is,
    kp_add_knights := by k_is,
    at_add_knights := ⟨_, _, _, _, _, _, _, _, _, _, _, _, by k_is, by k_is, fun Vs hV => by obtain ⟨v0, rfl⟩ := Mine.len1 hV; rfl⟩,
    fn_add_castles := by k_is,
    kp_add_castles := by k_is,
    at_add_castles := ⟨_, _, _, _, _, _, _, _, _, _, _, _, by k_is, by k_is, fun Vs hV => by obtain ⟨v0, rfl⟩ := Mine.len1 hV; rfl⟩,
    fn_make_geometry := by k_is,
    kp_make_geometry := by k_is,
    at_make_geometry := ⟨_, _, _, _, _, _, _, _, _, _, _, _, by k_is, by k_is, fun Vs hV => by obtain ⟨v0, v1, v2, v3, rfl⟩ := Mine.len4 hV; rfl⟩,
    fn_ray_attacks := by k_is,
    kp_ray_attacks := by k_is,
    at_ray_attacks := ⟨_, _, _, _, _, _, _, _, _, _, _, _, by k_is, by k_is, fun Vs hV => by obtain ⟨v0, v1, v2, v3, rfl⟩ := Mine.len4 hV; rfl⟩,
    fn_rook_attacks := by k_is,
    kp_rook_attacks := by k_is,
    at_rook_attacks := ⟨_, _, _, _, _, _, _, _, _, _, _, _, by k_is, by k_is, fun Vs hV => by obtain ⟨v0, v1, v2, rfl⟩ := Mine.len3 hV; rfl⟩,
    fn_bishop_attacks := by k_is,
    kp_bishop_attacks := by k_is,
    at_bishop_attacks := ⟨_, _, _, _, _, _, _, _, _, _, _, _, by k_is, by k_is, fun Vs hV => by obtain ⟨v0, v1, v2, rfl⟩ := Mine.len3 hV; rfl⟩,
    fn_queen_attacks := by k_is,
    kp_queen_attacks := by k_is,
    at_queen_attacks := ⟨_, _, _, _, _, _, _, _, _, _, _, _, by k_is, by k_is, fun Vs hV => by obtain ⟨v0, v1, v2, rfl⟩ := Mine.len3 hV; rfl⟩,
    fn_slider_attacks := by k_is,
    kp_slider_attacks := by k_is,
    at_slider_attacks := ⟨_, _, _, _, _, _, _, _, _, _, _, _, by k_is, by k_is, fun Vs hV => by obtain ⟨v0, v1, v2, v3, rfl⟩ := Mine.len4 hV; rfl⟩,
    fn_piece_attacks := by k_is,
    kp_piece_attacks := by k_is,
    at_piece_attacks := ⟨_, _, _, _, _, _, _, _, _, _, _, _, by k_is, by k_is, fun Vs hV => by obtain ⟨v0, v1, v2, v3, v4, rfl⟩ := Mine.len5 hV; rfl⟩,
    fn_solve := by k_is,
    kp_solve := by k_is,
    at_solve := ⟨_, _, _, _, _, _, _, _, _, _, _, _, by k_is, by k_is, fun Vs hV => by obtain ⟨v0, v1, v2, rfl⟩ := Mine.len3 hV; rfl⟩,
    fn_index_of := by k_is,
    kp_index_of := by k_is,
    at_index_of := ⟨_, _, _, _, _, _, _, _, _, _, _, _, by k_is, by k_is, fun Vs hV => by obtain ⟨v0, v1, v2, v3, v4, rfl⟩ := Mine.len5 hV; rfl⟩,
    fn_parts_of := by k_is,
    kp_parts_of := by k_is,
    at_parts_of := ⟨_, _, _, _, _, _, _, _, _, _, _, _, by k_is, by k_is, fun Vs hV => by obtain ⟨v0, v1, rfl⟩ := Mine.len2 hV; rfl⟩,
    fn_mark_places := by k_is,
    kp_mark_places := by k_is,
    at_mark_places := ⟨_, _, _, _, _, _, _, _, _, _, _, _, by k_is, by k_is, fun Vs hV => by obtain ⟨v0, v1, v2, v3, rfl⟩ := Mine.len4 hV; rfl⟩,
    fn_weak_moves := by k_is,
    kp_weak_moves := by k_is,
    at_weak_moves := ⟨_, _, _, _, _, _, _, _, _, _, _, _, by k_is, by k_is, fun Vs hV => by obtain ⟨v0, v1, v2, v3, v4, rfl⟩ := Mine.len5 hV; rfl⟩,
    fn_strong_moves := by k_is,
    kp_strong_moves := by k_is,
    at_strong_moves := ⟨_, _, _, _, _, _, _, _, _, _, _, _, by k_is, by k_is, fun Vs hV => by obtain ⟨v0, v1, v2, v3, v4, v5, rfl⟩ := Mine.len6 hV; rfl⟩,
    fn_moves_at := by k_is,
    kp_moves_at := by k_is,
    at_moves_at := ⟨_, _, _, _, _, _, _, _, _, _, _, _, by k_is, by k_is, fun Vs hV => by obtain ⟨v0, v1, v2, v3, v4, v5, v6, rfl⟩ := Mine.len7 hV; rfl⟩,
    fn_build_zone := by k_is,
    kp_build_zone := by k_is,
    at_build_zone := ⟨_, _, _, _, _, _, _, _, _, _, _, _, by k_is, by k_is, fun Vs hV => by obtain ⟨v0, v1, v2, rfl⟩ := Mine.len3 hV; rfl⟩,
    fn_law_image := by k_is,
    kp_law_image := by k_is,
    at_law_image := ⟨_, _, _, _, _, _, _, _, _, _, _, _, by k_is, by k_is, fun Vs hV => by obtain ⟨v0, v1, rfl⟩ := Mine.len2 hV; rfl⟩ } {
    hasDict := by k_is,
    get0 := by k_is,
    cls0 := by k_is,
    taker0 := by k_is,
    get1 := by k_is,
    cls1 := by k_is,
    taker1 := by k_is,
    get2 := by k_is,
    cls2 := by k_is,
    taker2 := by k_is,
    get3 := by k_is,
    cls3 := by k_is,
    taker3 := by k_is,
    get4 := by k_is,
    cls4 := by k_is,
    taker4 := by k_is,
    get5 := by k_is,
    cls5 := by k_is,
    taker5 := by k_is,
    get6 := by k_is,
    cls6 := by k_is,
    taker6 := by k_is,
    get7 := by k_is,
    cls7 := by k_is,
    taker7 := by k_is,
    get8 := by k_is,
    cls8 := by k_is,
    taker8 := by k_is,
    get9 := by k_is,
    cls9 := by k_is,
    taker9 := by k_is,
    get10 := by k_is,
    cls10 := by k_is,
    taker10 := by k_is,
    get11 := by k_is,
    cls11 := by k_is,
    taker11 := by k_is,
    get12 := by k_is,
    cls12 := by k_is,
    taker12 := by k_is,
    get13 := by k_is,
    cls13 := by k_is,
    taker13 := by k_is,
    setattr := by k_is,
    over := by k_is,
    makes := by k_is }
  all_goals try k_fold
  all_goals (repeat' ((fail_if_success (with_reducible show wpAny _ _ (execs (PySem.Stmt.Assign [PySem.Expr.Name (PySem.Str.ofString "table") _] _ _ :: _) _) _ _ _)); first | (k_unfold; (try dsimp only)) | (k_end; wrow_close) | walk1 | (dsimp only; walk1) | (leave1; walk_say "STEP leave1"; try dsimp only) | fail "no step"))
  all_goals (refine Mine.law_end GO TB KX (by assumption) (by assumption) (by assumption) rfl rfl rfl ?_ ?_)
  all_goals first
    | (intro h' tk' m' F'; exact goodW_bool F' (by assumption) (raisesW_false (by wrow_none_raised)) (by wrow_post) rfl)
    | (exact Mine.run_any _ _ _ (by decide) (Int.fmod_nonneg_of_pos _ (by decide)) (Int.fmod_lt_of_pos _ (by decide)) (Int.fmod_nonneg_of_pos _ (by decide)) (Int.fmod_lt_of_pos _ (by decide)))
