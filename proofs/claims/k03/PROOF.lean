import PyProof.Rows.All
import Wide.All
import OpenK.AllK
import Wide.FinOn
import HandS.ForMost
import HandS.ForExc
import HandS.TupAny
import HandS.TupMul
import HandS.TupLe
import HandS.Style
import HandS.Flow
import HandS.DictComp
import HandS.Wide
import HandS.OwnEq
import HandS.IsInst
import HandS.Lambda
import HandS.ExcInit
import HandS.ExcField
import HandS.Deep
import HandS.SetKeys
import HandS.Strs
import HandS.TryMany
import HandS.Conv
import HandS.Codes
import HandS.Zip
import HandS.Small
import HandS.New0
import HandS.Star
import KE.GoesEnum
import HandS.EndOwn
import PySem.Challenge.RW_watchedhands_k03_whole_windows
set_option Elab.async false
set_option linter.all false
set_option maxRecDepth 100000
/-! Rf, part A: deep values, states, the pure evaluator's pieces. -/
namespace Rf
open PySem

/-- deep values: lists, tuples, dicts and plain instances are values; what is shared and changes lies in a numbered box -/
inductive D where
  | non | bl (b : Bool) | int (i : Int) | str (x : Str)
  | tup (xs : List D) | lst (xs : List D) | frl (xs : List D) | dct (kvs : List (D × D))
  | ins (c : Nat) (fs : List (Str × D)) | box (i : Nat) | lam (n : Nat)

/-- a slot: not assigned, a value, or a list | dict | instance that this slot alone holds -/
inductive Sl where
  | no | val (d : D) | own (o : D)

structure Stt where
  σ : List Sl
  hs : List D
  tm : List D

inductive Out (α : Type) where
  | ok (a : α) (s : Stt) | exc (c : Nat) (fs : List (Str × D)) (s : Stt) | bad

abbrev M (α : Type) := Stt → Out α
def ret {α : Type} (a : α) : M α := fun s => .ok a s
def bnd {α β : Type} (m : M α) (k : α → M β) : M β := fun s => match m s with
  | .ok a s' => k a s'
  | .exc c fs s' => .exc c fs s'
  | .bad => .bad
def bad {α : Type} : M α := fun _ => .bad
def opt {α : Type} : Option α → M α
  | some a => ret a
  | none => bad

/-- what an expression hands on: a value, or what a slot alone holds -/
inductive Hd where
  | d (x : D) | own (i : Nat)

def unbox (x : D) (s : Stt) : Option D := match x with
  | .box i => s.hs[i]?
  | d => some d
/-- the content behind a handle -/
def cont (h : Hd) (s : Stt) : Option D := match h with
  | .d x => unbox x s
  | .own i => (match s.σ[i]? with
    | some (.own o) => some o
    | some (.val d) => unbox d s
    | _ => none)
def look (h : Hd) : M D := fun s => match cont h s with
  | some d => .ok d s
  | none => .bad
/-- a handle given away: what a slot alone held is a value from now on (not within a block) -/
def toD (blk : Bool) (h : Hd) : M D := fun s => match h with
  | .d x => .ok x s
  | .own i => (match s.σ[i]? with
    | some (.own o) => if blk then .bad else .ok o { s with σ := s.σ.set i (.val o) }
    | some (.val d) => .ok d s
    | _ => .bad)

/-! ### operations by content -/
mutual
def D.eqv : D → D → Bool
  | .non, .non => true
  | .bl a, .bl b => a == b
  | .bl a, .int j => (if a then 1 else 0) == j
  | .int i, .bl b => i == (if b then 1 else 0)
  | .int i, .int j => i == j
  | .str x, .str y => x == y
  | .lst xs, .lst ys => D.eqvs xs ys
  | .frl xs, .lst ys => D.eqvs xs ys
  | .lst xs, .frl ys => D.eqvs xs ys
  | .frl xs, .frl ys => D.eqvs xs ys
  | .tup xs, .tup ys => D.eqvs xs ys
  | _, _ => false
def D.eqvs : List D → List D → Bool
  | [], [] => true
  | x :: xs, y :: ys => D.eqv x y && D.eqvs xs ys
  | _, _ => false
end
mutual
/-- data without dicts, instances and boxes, nested at most so deep -/
def D.flat : D → Nat → Bool
  | .non, _ | .bl _, _ | .int _, _ => true
  | .str x, _ => PyData.strOk x
  | .tup xs, n => decide (0 < n) && D.flats xs (n - 1)
  | .lst xs, n => decide (0 < n) && D.flats xs (n - 1)
  | .frl xs, n => decide (0 < n) && D.flats xs (n - 1)
  | _, _ => false
def D.flats : List D → Nat → Bool
  | [], _ => true
  | x :: xs, n => D.flat x n && D.flats xs n
end
def seqOf : D → Option (List D)
  | .tup xs | .lst xs | .frl xs => some xs
  | _ => none
def lim : Nat := 16777216
theorem lim_eq : lim = sizeLine := sizeLine_eq.symm

def keyD : D → Option L2.Key
  | .int i => some (.inl i)
  | .str x => some (.inr x)
  | _ => none
/-- a == b -/
def eqD (a b : D) : Option Bool := if D.flat a 40 && D.flat b 40 then some (D.eqv a b) else none
def lenD : D → Option Int
  | .str x => if x.length ≤ lim then some x.length else none
  | .tup xs | .lst xs | .frl xs => some xs.length
  | .dct kvs => some kvs.length
  | _ => none
/-- x in y -/
def inD (x y : D) : Option Bool := match y with
  | .tup xs | .lst xs | .frl xs => if D.flat x 40 && D.flats xs 40 then some (xs.any fun z => D.eqv z x) else none
  | _ => none
def addD : D → D → Option D
  | .int i, .int j => some (.int (i + j))
  | .str x, .str y => if x.length + y.length ≤ lim then some (.str (x ++ y)) else none
  | .lst xs, .lst ys => if xs.length + ys.length ≤ lim then some (.lst (xs ++ ys)) else none
  | .tup xs, .tup ys => if xs.length + ys.length ≤ lim then some (.tup (xs ++ ys)) else none
  | _, _ => none
def subD : D → D → Option D
  | .int i, .int j => some (.int (i - j))
  | _, _ => none
def mulD : D → D → Option D
  | .int i, .int j => if (-18446744073709551616 < i ∧ i < 18446744073709551616) ∨ (-18446744073709551616 < j ∧ j < 18446744073709551616) then some (.int (i * j)) else none
  | .lst xs, .int k => if 0 ≤ k ∧ k ≤ 1000 ∧ xs.length ≤ 1000 then some (.lst (List.replicate k.toNat xs).flatten) else none
  | .tup xs, .int k => if 2 ≤ k ∧ k ≤ 1000 ∧ xs.length ≤ 1000 ∧ xs.isEmpty = false then some (.tup (List.replicate k.toNat xs).flatten) else none
  | _, _ => none
def fdivD : D → D → Option D
  | .int i, .int j => if 0 < j ∧ j < 1073741824 then some (.int (i / j)) else none
  | _, _ => none
def modD : D → D → Option D
  | .int i, .int j => if 0 < j then some (.int (i % j)) else none
  | _, _ => none
def powD : D → D → Option D
  | .int i, .int j => if 0 ≤ j ∧ j ≤ 1000000 ∧ i.natAbs < 18446744073709551616 then some (.int (i ^ j.toNat)) else none
  | _, _ => none
def cmpI (f : Int → Int → Bool) : D → D → Option D
  | .int i, .int j => some (.bl (f i j))
  | _, _ => none
def ltD : D → D → Option D
  | .int i, .int j => some (.bl (decide (i < j)))
  | .str x, .str y => some (.bl (decide (x.cps.toList < y.cps.toList)))
  | _, _ => none
def gtD : D → D → Option D
  | .int i, .int j => some (.bl (decide (j < i)))
  | .str x, .str y => some (.bl (decide (y.cps.toList < x.cps.toList)))
  | _, _ => none
def leD : D → D → Option D := cmpI fun i j => decide (i ≤ j)
def geD : D → D → Option D := cmpI fun i j => decide (j ≤ i)
def eqvD (a b : D) : Option D := (eqD a b).map .bl
def nevD (a b : D) : Option D := (eqD a b).map fun k => .bl (!k)
/-- the place of a key -/
def getK (kvs : List (D × D)) (k : D) : Option D := (kvs.find? fun p => decide (keyD p.1 = keyD k)).map (·.2)
/-- d[k] = v -/
def putD (kvs : List (D × D)) (k v : D) : List (D × D) :=
  if (kvs.any fun p => decide (keyD p.1 = keyD k)) = true then kvs.map (fun p => if keyD p.1 = keyD k then (p.1, v) else p) else kvs ++ [(k, v)]
def dropD (kvs : List (D × D)) (k : D) : List (D × D) := kvs.filter fun p => decide (keyD p.1 ≠ keyD k)
def invD (x y : D) : Option D := match y with
  | .dct kvs => if (keyD x).isSome then some (.bl (getK kvs x).isSome) else none
  | .str z => (match x with
    | .str c => if c.cps.size = 1 then some (.bl (decide (c.cps.getD 0 0 ∈ z.cps.toList))) else none
    | _ => none)
  | y => (inD x y).map .bl
def ninvD (x y : D) : Option D := match invD x y with
  | some (.bl k) => some (.bl (!k))
  | _ => none
def isNon : D → Bool
  | .non => true
  | _ => false
def isnD (x y : D) : Option D := match y with
  | .non => some (.bl (isNon x))
  | .bl b => (match x with | .bl a => some (.bl (decide (a = b))) | _ => none)
  | _ => none
def notnD (x y : D) : Option D := match isnD x y with
  | some (.bl k) => some (.bl (!k))
  | _ => none
def cutD (xs : List D) (lo hi : Option Int) : List D := (xs.drop (HT.sIx xs.length 0 lo)).take (HT.sIx xs.length xs.length hi - HT.sIx xs.length 0 lo)
/-! ### what the pieces are made of -/
def asBl : D → Option Bool
  | .bl b => some b
  | _ => none
def asInt : D → Option Int
  | .int i => some i
  | _ => none
/-- truth by content (not of instances) -/
def truD : D → Option Bool
  | .non => some false
  | .bl b => some b
  | .int i => some (i != 0)
  | .str x => if x.length ≤ lim then some ((x.length : Int) != 0) else none
  | .tup xs | .lst xs | .frl xs => some (!xs.isEmpty)
  | _ => none
def mVar (i : Nat) : M Hd := fun s => match s.σ[i]? with
  | some (.val d) => .ok (.d d) s
  | some (.own _) => .ok (.own i) s
  | _ => .bad
def mC (d : D) : M Hd := ret (.d d)
def mBin (op : D → D → Option D) (a b : M Hd) : M Hd := bnd a fun h => bnd b fun k => bnd (look h) fun x => bnd (look k) fun y => bnd (opt (op x y)) fun z => ret (.d z)
def mTB (m : M Hd) : M Bool := bnd m fun h => bnd (look h) fun d => opt (asBl d)
def mTV (m : M Hd) : M Bool := bnd m fun h => bnd (look h) fun d => opt (truD d)
def mNotT (m : M Bool) : M Bool := bnd m fun b => ret (!b)
def mNotV (m : M Hd) : M Hd := bnd m fun h => bnd (look h) fun d => bnd (opt (asBl d)) fun b => ret (.d (.bl (!b)))
def mAndT : List (M Bool) → M Bool
  | [] => ret true
  | [a] => a
  | a :: r => bnd a fun c => if c = true then mAndT r else ret false
def mOrT : List (M Bool) → M Bool
  | [] => ret false
  | [a] => a
  | a :: r => bnd a fun c => if c = true then ret true else mOrT r
def mAndV : List (M Hd) → M Hd
  | [] => bad
  | [a] => a
  | a :: r => bnd a fun h => bnd (look h) fun d => bnd (opt (asBl d)) fun c => if c = true then mAndV r else ret (.d (.bl false))
def mOrV : List (M Hd) → M Hd
  | [] => bad
  | [a] => a
  | a :: r => bnd a fun h => bnd (look h) fun d => bnd (opt (asBl d)) fun c => if c = true then ret (.d (.bl true)) else mOrV r
def mIf {α : Type} (c : M Bool) (a b : M α) : M α := bnd c fun t => if t = true then a else b
def mChain (f f' : D → D → Option D) (a b c : M Hd) : M Hd := bnd a fun h => bnd b fun k => bnd (look h) fun x => bnd (look k) fun y => bnd (opt (f x y)) fun z => bnd (opt (asBl z)) fun t =>
  if t = true then bnd c fun l => bnd (look k) fun y' => bnd (look l) fun w => bnd (opt (f' y' w)) fun u => ret (.d u) else ret (.d (.bl false))
/-- what is given away -/
def mD (blk : Bool) (m : M Hd) : M D := bnd m (toD blk)
def mDs (blk : Bool) : List (M Hd) → M (List D)
  | [] => ret []
  | m :: r => bnd (mD blk m) fun d => bnd (mDs blk r) fun ds => ret (d :: ds)
def mTup (m : M (List D)) : M Hd := bnd m fun ds => if ds.length ≤ lim then ret (.d (.tup ds)) else bad
def mLst (m : M (List D)) : M Hd := bnd m fun ds => if ds.length ≤ lim then ret (.d (.lst ds)) else bad
def itemD (x : D) (i : D) : Option D := match x with
  | .tup xs | .lst xs | .frl xs => (match i with | .int i => L2.atI xs i | _ => none)
  | .str z => (match i with | .int i => if z.length ≤ lim then (L2.atI z.cps.toList i).map (fun c => .str ⟨#[c]⟩) else none | _ => none)
  | .dct kvs => if (keyD i).isSome then getK kvs i else none
  | _ => none
def sliceD (x : D) (lo hi : Option Int) : Option D := match x with
  | .tup xs => some (.tup (cutD xs lo hi))
  | .lst xs | .frl xs => some (.lst (cutD xs lo hi))
  | _ => none
def mPart : Option (M Hd) → M (Option Int)
  | none => ret none
  | some m => bnd m fun h => bnd (look h) fun d => bnd (opt (asInt d)) fun i => ret (some i)
def mSlice (m : M Hd) (lo hi : Option (M Hd)) : M Hd := bnd m fun h => bnd (mPart lo) fun l => bnd (mPart hi) fun u => bnd (look h) fun x => bnd (opt (sliceD x l u)) fun z => ret (.d z)
def lookF (f : Str) : List (Str × D) → Option D
  | [] => none
  | (n, d) :: r => if f = n then some d else lookF f r
def fldD (f : Str) : D → Option (Nat × D)
  | .ins c fs => (lookF f fs).map fun d => (c, d)
  | _ => none
/-! ### calls -/
inductive OutC where
  | ok (d : D) (hs : List D) | exc (c : Nat) (fs : List (Str × D)) (hs : List D) | bad
/-- what the defs make of arguments and boxes, by number -/
abbrev Oc := Nat → List D → List D → OutC
def outC (r : OutC) (s : Stt) : Out Hd := match r with
  | .ok d hs => .ok (.d d) { s with hs := hs }
  | .exc c fs hs => .exc c fs { s with hs := hs }
  | .bad => .bad
def mCall (oc : Oc) (f n : Nat) (m : M (List D)) : M Hd := bnd m fun ds => fun s => if ds.length = n then outC (oc f ds s.hs) s else .bad
/-! ### statements -/
inductive OutS where
  | nx (s : Stt) | rt (d : D) (s : Stt) | bk (s : Stt) | ct (s : Stt) | exc (c : Nat) (fs : List (Str × D)) (s : Stt) | bad
abbrev MS := Stt → OutS
def startS (N n : Nat) (ds : List D) (hs : List D) : Stt := ⟨ds.map Sl.val ++ List.replicate (N - n) Sl.no, hs, []⟩
def runFn (N n : Nat) (m : MS) (ds : List D) (hs : List D) : OutC := match m (startS N n ds hs) with
  | .nx s => .ok .non s.hs
  | .rt d s => .ok d s.hs
  | .exc c fs s => .exc c fs s.hs
  | _ => .bad
def sSeq (a b : MS) : MS := fun s => match a s with
  | .nx s' => b s'
  | r => r
def sPass : MS := fun s => .nx s
def sBrk : MS := fun s => .bk s
def sCnt : MS := fun s => .ct s
/-- first a piece -/
def sM {α : Type} (m : M α) (k : α → MS) : MS := fun s => match m s with
  | .ok a s' => k a s'
  | .exc c fs s' => .exc c fs s'
  | .bad => .bad
def sIf (c : M Bool) (a b : MS) : MS := sM c fun t => if t = true then a else b
def sRet (m : M Hd) : MS := sM m fun h s => match toD false h s with
  | .ok d s' => .rt d s'
  | .exc c fs s' => .exc c fs s'
  | .bad => .bad
def sRetN : MS := fun s => .rt .non s
def sDrop (m : M Hd) : MS := sM m fun _ s => .nx s
/-- a value into a slot -/
def setS (i : Nat) (d : D) (s : Stt) : Stt := { s with σ := s.σ.set i (.val d) }
def sSet (i : Nat) (m : M Hd) : MS := sM m fun h s => match toD false h s with
  | .ok d s' => .nx (setS i d s')
  | .exc c fs s' => .exc c fs s'
  | .bad => .bad
def mRev (m : M Hd) : M Hd := bnd m fun h => bnd (look h) fun x => (match x with
  | .lst xs | .frl xs => ret (.d (.lst xs.reverse))
  | _ => bad)
/-- a type: a built-in one, an own class -/
inductive Ty where
  | b (s : String) | c (n : Nat)
/-- what is known of classes and defs, as data -/
structure Gd where
  okF : Nat → Str → Bool
  meth : Nat → Str → Option Nat
  fn : Nat → Nat
  ini : Nat → Option Nat
  isi : Ty → Ty → Option Bool
  nf : Nat → Nat → Bool
  hne : Nat → Bool
def mFld (t : Gd) (f : Str) (m : M Hd) : M Hd := bnd m fun h => bnd (look h) fun d => bnd (opt (fldD f d)) fun p => if t.okF p.1 f = true then ret (.d p.2) else bad
/-- a call of a def with its arguments -/
def callD (oc : Oc) (f n : Nat) (ds : List D) : M Hd := fun s => if ds.length = n then outC (oc f ds s.hs) s else .bad
def methD (t : Gd) (name : Str) : D → Option Nat
  | .ins c fs => if lookF name fs |>.isNone then t.meth c name else none
  | _ => none
def mMeth (t : Gd) (oc : Oc) (blk : Bool) (name : Str) (m : M Hd) (ms : M (List D)) : M Hd := bnd m fun h => bnd (look h) fun d => bnd (opt (methD t name d)) fun i => bnd (toD blk h) fun self => bnd ms fun ds => callD oc i (t.fn i) (self :: ds)
end Rf

set_option Elab.async false
set_option linter.all false
set_option maxRecDepth 100000
/-! Rf, part B: how deep values stand in the abstract heap; frames. -/
namespace Rf
open PySem L2

noncomputable def hide (W : Addr → Prop) (H : Hp) : Hp := by
  classical exact fun a => if W a then none else H a
theorem hide_some {W : Addr → Prop} {H : Hp} {a : Addr} {o : HO} : hide W H a = some o ↔ ¬ W a ∧ H a = some o := by
  unfold hide
  by_cases h : W a
  · simp [h]
  · simp [h]
theorem hide_of {W : Addr → Prop} {H : Hp} {a : Addr} {o : HO} (n : ¬ W a) (h : H a = some o) : hide W H a = some o := hide_some.mpr ⟨n, h⟩

/-- where the classes stand; what lambdas and their code are; the tables of code -/
structure CA where
  cl : Nat → Addr
  lam : Nat → Addr → Addr → PySem.Heap → Prop
  code : Nat → Addr → PySem.Heap → Prop
  T : List (Addr × Str)
/-- not a table of code -/
def NT (o : HO) : Prop := ∀ ps, o ≠ .tbl ps
/-- there, neither a table nor an object of a shape of its own -/
def Mu (x : Option HO) : Prop := ∃ o, x = some o ∧ NT o ∧ ∀ φ, o ≠ .ext φ
theorem Mu.ne {x : Option HO} (m : Mu x) : x ≠ none := by
  obtain ⟨o, e, _⟩ := m
  rw [e]; simp
theorem _root_.L2.DGet.kR {H : Hp} {a : Addr} {kvs : List (Key × V)} {k : Key} (e : Rd H a (.dK kvs)) : DGet H a (kV k) (valV kvs k) := .inl ⟨kvs, k, e, rfl, rfl⟩
theorem keyD_kV {d : D} {k : Key} (h : keyD d = some k) : (∃ i, d = .int i ∧ k = .inl i) ∨ (∃ x, d = .str x ∧ k = .inr x) := by
  cases d <;> simp [keyD] at h
  · exact .inl ⟨_, rfl, h.symm⟩
  · exact .inr ⟨_, rfl, h.symm⟩

mutual
inductive Rep (K : PySem.W.Frag) (ca : CA) (ρ : List Addr) (H : Hp) : D → V → Prop
  | non : Rep K ca ρ H .non .non
  | bl (b : Bool) : Rep K ca ρ H (.bl b) (.bl b)
  | int (i : Int) : Rep K ca ρ H (.int i) (.int i)
  | str (x : Str) : Rep K ca ρ H (.str x) (.str x)
  | tup {a : Addr} {vs : List V} {ds : List D} (h : SqT K H a vs) (r : Reps K ca ρ H ds vs) : Rep K ca ρ H (.tup ds) (.ref a)
  | lst {a : Addr} {vs : List V} {ds : List D} (h : H a = some (.lst vs)) (r : Reps K ca ρ H ds vs) : Rep K ca ρ H (.lst ds) (.ref a)
  | frl {a : Addr} {vs : List V} {ds : List D} (h : SqL K H a vs) (r : Reps K ca ρ H ds vs) : Rep K ca ρ H (.frl ds) (.ref a)
  | dct {a : Addr} {ks : List (Key × V)} {kvs : List (D × D)} (h : Rd H a (.dK ks)) (r : RepK K ca ρ H kvs ks) : Rep K ca ρ H (.dct kvs) (.ref a)
  | ins {a dx : Addr} {c : Nat} {vs : List (Str × V)} {fs : List (Str × D)} (h : H a = some (.ins (ca.cl c) dx vs)) (r : RepF K ca ρ H fs vs) : Rep K ca ρ H (.ins c fs) (.ref a)
  | box {i : Nat} {a : Addr} (h : ρ[i]? = some a) : Rep K ca ρ H (.box i) (.ref a)
  | lam {n : Nat} {f c : Addr} (h : H f = some (.ext (ca.lam n f c))) (hc : H c = some (.ext (ca.code n c))) : Rep K ca ρ H (.lam n) (.ref f)
inductive Reps (K : PySem.W.Frag) (ca : CA) (ρ : List Addr) (H : Hp) : List D → List V → Prop
  | nil : Reps K ca ρ H [] []
  | cons {d : D} {v : V} {ds : List D} {vs : List V} (h : Rep K ca ρ H d v) (t : Reps K ca ρ H ds vs) : Reps K ca ρ H (d :: ds) (v :: vs)
inductive RepK (K : PySem.W.Frag) (ca : CA) (ρ : List Addr) (H : Hp) : List (D × D) → List (Key × V) → Prop
  | nil : RepK K ca ρ H [] []
  | cons {d e : D} {k : Key} {v : V} {ds : List (D × D)} {vs : List (Key × V)} (hk : keyD d = some k) (h : Rep K ca ρ H e v) (t : RepK K ca ρ H ds vs) : RepK K ca ρ H ((d, e) :: ds) ((k, v) :: vs)
inductive RepF (K : PySem.W.Frag) (ca : CA) (ρ : List Addr) (H : Hp) : List (Str × D) → List (Str × V) → Prop
  | nil : RepF K ca ρ H [] []
  | cons {d : D} {f : Str} {v : V} {ds : List (Str × D)} {vs : List (Str × V)} (h : Rep K ca ρ H d v) (t : RepF K ca ρ H ds vs) : RepF K ca ρ H ((f, d) :: ds) ((f, v) :: vs)
end

section
variable {K : PySem.W.Frag} {ca : CA} {ρ ρ' : List Addr} {H H' : Hp}
def Sub (H H' : Hp) : Prop := ∀ a o, H a = some o → NT o → H' a = some o
theorem Sub.refl (H : Hp) : Sub H H := fun _ _ h _ => h
theorem Sub.trans {H H1 H2 : Hp} (a : Sub H H1) (b : Sub H1 H2) : Sub H H2 := fun c o h n => b c o (a c o h n) n
/-- an object is the same, but that a dict may be locked or unlocked -/
def bareO : HO → HO
  | .frz _ (.dK k) => .dK k
  | o => o
def SubB (H H' : Hp) : Prop := ∀ a o, H a = some o → NT o → ∃ o', H' a = some o' ∧ bareO o' = bareO o
theorem Sub.b {H H' : Hp} (s : Sub H H') : SubB H H' := fun a o h n => ⟨o, s a o h n, rfl⟩
theorem SubB.lst {a : Addr} {xs : List V} (s : SubB H H') (h : H a = some (.lst xs)) : H' a = some (.lst xs) := by
  obtain ⟨o', e, b⟩ := s _ _ h (fun _ z => nomatch z)
  rw [e]
  unfold bareO at b
  split at b <;> simp_all
theorem SubB.tup {a : Addr} {xs : List V} (s : SubB H H') (h : H a = some (.tup xs)) : H' a = some (.tup xs) := by
  obtain ⟨o', e, b⟩ := s _ _ h (fun _ z => nomatch z)
  rw [e]
  unfold bareO at b
  split at b <;> simp_all
theorem SubB.ins {a C dx : Addr} {xs : List (Str × V)} (s : SubB H H') (h : H a = some (.ins C dx xs)) : H' a = some (.ins C dx xs) := by
  obtain ⟨o', e, b⟩ := s _ _ h (fun _ z => nomatch z)
  rw [e]
  unfold bareO at b
  split at b <;> simp_all
theorem SubB.frl {a : Addr} {o : Obj} {xs : List V} (s : SubB H H') (h : H a = some (.frz o (.lst xs))) : H' a = some (.frz o (.lst xs)) := by
  obtain ⟨o', e, b⟩ := s _ _ h (fun _ z => nomatch z)
  rw [e]
  unfold bareO at b
  split at b <;> simp_all
theorem SubB.frt {a : Addr} {o : Obj} {xs : List V} (s : SubB H H') (h : H a = some (.frz o (.tup xs))) : H' a = some (.frz o (.tup xs)) := by
  obtain ⟨o', e, b⟩ := s _ _ h (fun _ z => nomatch z)
  rw [e]
  unfold bareO at b
  split at b <;> simp_all
theorem SubB.dct {a : Addr} {ks : List (Key × V)} (s : SubB H H') (h : Rd H a (.dK ks)) : Rd H' a (.dK ks) := by
  have key : ∀ o, H a = some o → NT o → bareO o = .dK ks → Rd H' a (.dK ks) := fun o h n q => by
    obtain ⟨o', e, b⟩ := s _ _ h n
    rw [q] at b
    unfold bareO at b
    split at b
    · cases b; exact .inr ⟨_, e⟩
    · subst b; exact .inl e
  rcases h with h | ⟨o, h⟩
  · exact key _ h (fun _ z => nomatch z) rfl
  · exact key _ h (fun _ z => nomatch z) rfl
theorem SubB.ext {a : Addr} {φ : PySem.Heap → Prop} (s : SubB H H') (h : H a = some (.ext φ)) : H' a = some (.ext φ) := by
  obtain ⟨o', e, b⟩ := s _ _ h (fun _ z => nomatch z)
  rw [e]
  unfold bareO at b
  split at b <;> simp_all
theorem SubB.xd {a : Addr} {fs : List (Str × V)} (s : SubB H H') (h : H a = some (.xd fs)) : H' a = some (.xd fs) := by
  obtain ⟨o', e, b⟩ := s _ _ h (fun _ z => nomatch z)
  rw [e]
  unfold bareO at b
  split at b <;> simp_all
theorem SubB.seq {a : Addr} {xs : List V} (s : SubB H H') (h : SqL K H a xs) : SqL K H' a xs := by
  rcases h with (h | ⟨o, h⟩) | h
  · exact .inl (.inl (s.lst h))
  · exact .inl (.inr ⟨o, s.frl h⟩)
  · exact .inr h
theorem SubB.seqT {a : Addr} {xs : List V} (s : SubB H H') (h : SqT K H a xs) : SqT K H' a xs := by
  rcases h with (h | ⟨o, h⟩) | h
  · exact .inl (.inl (s.tup h))
  · exact .inl (.inr ⟨o, s.frt h⟩)
  · exact .inr h
theorem Sub.seq {a : Addr} {xs : List V} (s : Sub H H') (h : SqL K H a xs) : SqL K H' a xs := s.b.seq h
theorem Sub.seqT {a : Addr} {xs : List V} (s : Sub H H') (h : SqT K H a xs) : SqT K H' a xs := s.b.seqT h
mutual
theorem Rep.monoB (s : SubB H H') (hp : ρ <+: ρ') : ∀ {d : D} {v : V}, Rep K ca ρ H d v → Rep K ca ρ' H' d v
  | _, _, .non => .non
  | _, _, .bl b => .bl b
  | _, _, .int b => .int b
  | _, _, .str b => .str b
  | _, _, .tup h r => .tup (s.seqT h) (Reps.monoB s hp r)
  | _, _, .lst h r => .lst (s.lst h) (Reps.monoB s hp r)
  | _, _, .frl h r => .frl (s.seq h) (Reps.monoB s hp r)
  | _, _, .dct h r => .dct (s.dct h) (RepK.monoB s hp r)
  | _, _, .ins h r => .ins (s.ins h) (RepF.monoB s hp r)
  | _, _, .box h => .box (by obtain ⟨t, rfl⟩ := hp; rw [List.getElem?_append_left (List.getElem?_eq_some_iff.mp h).1]; exact h)
  | _, _, .lam h hc => .lam (s.ext h) (s.ext hc)
theorem Reps.monoB (s : SubB H H') (hp : ρ <+: ρ') : ∀ {ds : List D} {vs : List V}, Reps K ca ρ H ds vs → Reps K ca ρ' H' ds vs
  | _, _, .nil => .nil
  | _, _, .cons h t => .cons (Rep.monoB s hp h) (Reps.monoB s hp t)
theorem RepK.monoB (s : SubB H H') (hp : ρ <+: ρ') : ∀ {ds : List (D × D)} {vs : List (Key × V)}, RepK K ca ρ H ds vs → RepK K ca ρ' H' ds vs
  | _, _, .nil => .nil
  | _, _, .cons hk h t => .cons hk (Rep.monoB s hp h) (RepK.monoB s hp t)
theorem RepF.monoB (s : SubB H H') (hp : ρ <+: ρ') : ∀ {ds : List (Str × D)} {vs : List (Str × V)}, RepF K ca ρ H ds vs → RepF K ca ρ' H' ds vs
  | _, _, .nil => .nil
  | _, _, .cons h t => .cons (Rep.monoB s hp h) (RepF.monoB s hp t)
end
theorem Rep.mono (s : Sub H H') (hp : ρ <+: ρ') {d : D} {v : V} (r : Rep K ca ρ H d v) : Rep K ca ρ' H' d v := r.monoB s.b hp
theorem Reps.mono (s : Sub H H') (hp : ρ <+: ρ') {d : List D} {v : List V} (r : Reps K ca ρ H d v) : Reps K ca ρ' H' d v := r.monoB s.b hp
theorem RepK.mono (s : Sub H H') (hp : ρ <+: ρ') {d : List (D × D)} {v : List (Key × V)} (r : RepK K ca ρ H d v) : RepK K ca ρ' H' d v := r.monoB s.b hp
theorem RepF.mono (s : Sub H H') (hp : ρ <+: ρ') {d : List (Str × D)} {v : List (Str × V)} (r : RepF K ca ρ H d v) : RepF K ca ρ' H' d v := r.monoB s.b hp
theorem Reps.length : ∀ {ds : List D} {vs : List V}, Reps K ca ρ H ds vs → ds.length = vs.length
  | _, _, .nil => rfl
  | _, _, .cons _ t => by rw [List.length_cons, List.length_cons, t.length]
theorem RepK.length : ∀ {ds : List (D × D)} {vs : List (Key × V)}, RepK K ca ρ H ds vs → ds.length = vs.length
  | _, _, .nil => rfl
  | _, _, .cons _ _ t => by rw [List.length_cons, List.length_cons, t.length]
theorem RepF.length : ∀ {ds : List (Str × D)} {vs : List (Str × V)}, RepF K ca ρ H ds vs → ds.length = vs.length
  | _, _, .nil => rfl
  | _, _, .cons _ t => by rw [List.length_cons, List.length_cons, t.length]
theorem Reps.append : ∀ {ds es : List D} {vs us : List V}, Reps K ca ρ H ds vs → Reps K ca ρ H es us → Reps K ca ρ H (ds ++ es) (vs ++ us)
  | _, _, _, _, .nil, r => r
  | _, _, _, _, .cons h t, r => .cons h (t.append r)
theorem Reps.get : ∀ {ds : List D} {vs : List V} {i : Nat} {d : D}, Reps K ca ρ H ds vs → ds[i]? = some d → ∃ v, vs[i]? = some v ∧ Rep K ca ρ H d v
  | _, _, _, _, .nil, e => by simp at e
  | _, _, 0, _, .cons h _, e => by simp at e; subst e; exact ⟨_, rfl, h⟩
  | _, _, i + 1, _, .cons _ t, e => by
    obtain ⟨v, h1, h2⟩ := t.get (i := i) (by simpa using e)
    exact ⟨v, by simpa using h1, h2⟩
theorem Reps.get' : ∀ {ds : List D} {vs : List V} {i : Nat} {v : V}, Reps K ca ρ H ds vs → vs[i]? = some v → ∃ d, ds[i]? = some d ∧ Rep K ca ρ H d v
  | _, _, _, _, .nil, e => by simp at e
  | _, _, 0, _, .cons h _, e => by simp at e; subst e; exact ⟨_, rfl, h⟩
  | _, _, i + 1, _, .cons _ t, e => by
    obtain ⟨v, h1, h2⟩ := t.get' (i := i) (by simpa using e)
    exact ⟨v, by simpa using h1, h2⟩
theorem Reps.drop : ∀ {ds : List D} {vs : List V} (n : Nat), Reps K ca ρ H ds vs → Reps K ca ρ H (ds.drop n) (vs.drop n)
  | _, _, 0, r => r
  | _, _, _ + 1, .nil => .nil
  | _, _, n + 1, .cons _ t => t.drop n
theorem Reps.take : ∀ {ds : List D} {vs : List V} (n : Nat), Reps K ca ρ H ds vs → Reps K ca ρ H (ds.take n) (vs.take n)
  | _, _, 0, _ => .nil
  | _, _, _ + 1, .nil => .nil
  | _, _, n + 1, .cons h t => .cons h (t.take n)
theorem Reps.set {x : D} {u : V} (r : Rep K ca ρ H x u) : ∀ {ds : List D} {vs : List V} (i : Nat), Reps K ca ρ H ds vs → Reps K ca ρ H (ds.set i x) (vs.set i u)
  | _, _, _, .nil => .nil
  | _, _, 0, .cons _ t => .cons r t
  | _, _, i + 1, .cons q t => .cons q (Reps.set r i t)

/-- what stands at the top of an object at a; its parts stand in Hh -/
def Top (K : PySem.W.Frag) (ca : CA) (ρ : List Addr) (Hh H : Hp) (a : Addr) : D → Prop
  | .lst ds => ∃ vs, H a = some (.lst vs) ∧ Reps K ca ρ Hh ds vs
  | .dct kvs => ∃ ks, H a = some (.dK ks) ∧ RepK K ca ρ Hh kvs ks
  | .ins c fs => ∃ dx vs, H a = some (.ins (ca.cl c) dx vs) ∧ RepF K ca ρ Hh fs vs
  | _ => False
theorem Top.there {Hh : Hp} {a : Addr} {o : D} (h : Top K ca ρ Hh H a o) : ∃ u, H a = some u ∧ Mut (some u) := by
  cases o <;> first | exact h.elim | skip
  · obtain ⟨vs, e, _⟩ := h; exact ⟨_, e, trivial⟩
  · obtain ⟨vs, e, _⟩ := h; exact ⟨_, e, trivial⟩
  · obtain ⟨dx, vs, e, _⟩ := h; exact ⟨_, e, trivial⟩
theorem Top.mono {Hh Hh' : Hp} {a : Addr} {o : D} (h : Top K ca ρ Hh H a o) (s : Sub Hh Hh') (hp : ρ <+: ρ') (e : ∀ u, H a = some u → H' a = some u) : Top K ca ρ' Hh' H' a o := by
  cases o <;> first | exact h.elim | skip
  · obtain ⟨vs, q, r⟩ := h; exact ⟨vs, e _ q, r.mono s hp⟩
  · obtain ⟨vs, q, r⟩ := h; exact ⟨vs, e _ q, r.mono s hp⟩
  · obtain ⟨dx, vs, q, r⟩ := h; exact ⟨dx, vs, e _ q, r.mono s hp⟩
/-- a top that is no longer hidden is a value -/
theorem Top.rep {Hh : Hp} {a : Addr} {o : D} (h : Top K ca ρ Hh H a o) (s : Sub Hh H') (e : ∀ u, H a = some u → H' a = some u) : Rep K ca ρ H' o (.ref a) := by
  cases o <;> first | exact h.elim | skip
  · obtain ⟨vs, q, r⟩ := h; exact .lst (e _ q) (r.mono s (List.prefix_refl _))
  · obtain ⟨vs, q, r⟩ := h; exact .dct (.inl (e _ q)) (r.mono s (List.prefix_refl _))
  · obtain ⟨dx, vs, q, r⟩ := h; exact .ins (e _ q) (r.mono s (List.prefix_refl _))
end

/-! ### frames -/
/-- the witness of a frame: the boxes' addresses, what slots and temporaries alone hold, what callers alone hold, the heap at the entry -/
structure Fm where
  ρ : List Addr
  ρ0 : List Addr
  own : Nat → Option Addr
  tm : Nat → Option Addr
  B : Addr → Prop
  He : Hp
  self : Option Addr
def Fm.W (F : Fm) (a : Addr) : Prop := F.B a ∨ a ∈ F.ρ ∨ (∃ i, F.own i = some a) ∨ ∃ j, F.tm j = some a

structure FrOk (K : PySem.W.Frag) (ca : CA) (F : Fm) (st : Stt) (σ : L2.St) (H : Hp) : Prop where
  len : st.σ.length = σ.length
  val : ∀ (i : Nat) (d : D), st.σ[i]? = some (Sl.val d) → ∃ v, σ[i]? = some (some v) ∧ Rep K ca F.ρ (hide F.W H) d v
  own : ∀ (i : Nat) (o : D), st.σ[i]? = some (Sl.own o) → ∃ a, F.own i = some a ∧ σ[i]? = some (some (.ref a)) ∧ Top K ca F.ρ (hide F.W H) H a o
  tm : ∀ (j : Nat) (a : Addr), F.tm j = some a → ∃ o, st.tm[j]? = some o ∧ Top K ca F.ρ (hide F.W H) H a o
  box : ∀ (i : Nat) (a : Addr), F.ρ[i]? = some a → ∃ o, st.hs[i]? = some o ∧ Top K ca F.ρ (hide F.W H) H a o
  boxn : F.ρ.length = st.hs.length
  nd : F.ρ.Nodup
  ownI : ∀ (i j : Nat) (a : Addr), F.own i = some a → F.own j = some a → i = j
  tmI : ∀ (i j : Nat) (a : Addr), F.tm i = some a → F.tm j = some a → i = j
  ownT : ∀ (i j : Nat) (a : Addr), F.own i = some a → F.tm j ≠ some a
  ownF : ∀ (i : Nat) (a : Addr), F.own i = some a → F.He a = none ∧ a ∉ F.ρ ∧ Mu (H a)
  tmF : ∀ (i : Nat) (a : Addr), F.tm i = some a → F.He a = none ∧ a ∉ F.ρ
  bF : ∀ a, F.B a → Mu (F.He a) ∧ a ∉ F.ρ
  mono : ∀ a o, F.He a = some o → a ∉ F.ρ → NT o → H a = some o
  pre0 : F.ρ0 <+: F.ρ
  new0 : ∀ a, a ∈ F.ρ → a ∉ F.ρ0 → F.He a = none
  dom : ∀ a, F.He a ≠ none → H a ≠ none
  tab : LamX.Tabs ca.T H
  slf : ∀ x o, F.self = some x → st.σ[0]? = some (Sl.own o) → F.own 0 = some x

section
variable {K : PySem.W.Frag} {ca : CA} {F F' : Fm} {st st' : Stt} {σ : L2.St} {H H' : Hp}
theorem FrOk.wd (h : FrOk K ca F st σ H) {a : Addr} (w : F.W a) : H a ≠ none := by
  rcases w with w | w | ⟨i, w⟩ | ⟨j, w⟩
  · exact h.dom a (h.bF a w).1.ne
  · obtain ⟨i, hi⟩ := List.getElem?_of_mem w
    obtain ⟨o, _, t⟩ := h.box i a hi
    obtain ⟨u, e, _⟩ := t.there
    rw [e]; simp
  · exact (h.ownF i a w).2.2.ne
  · obtain ⟨o, _, t⟩ := h.tm j a w
    obtain ⟨u, e, _⟩ := t.there
    rw [e]; simp
theorem FrOk.new (h : FrOk K ca F st σ H) {p : Addr} (e : H p = none) : ¬ F.W p := fun w => h.wd w e

/-- what is hidden is neither a table nor an object of a shape of its own -/
theorem FrOk.wmu (h : FrOk K ca F st σ H) {a : Addr} (w : F.W a) : Mu (H a) := by
  have tp : ∀ {o : D}, Top K ca F.ρ (hide F.W H) H a o → Mu (H a) := fun {o} t => by
    cases o <;> first | exact t.elim | skip
    · obtain ⟨vs, e, _⟩ := t; exact ⟨_, e, fun _ z => (nomatch z), fun _ z => (nomatch z)⟩
    · obtain ⟨vs, e, _⟩ := t; exact ⟨_, e, fun _ z => (nomatch z), fun _ z => (nomatch z)⟩
    · obtain ⟨dx, vs, e, _⟩ := t; exact ⟨_, e, fun _ z => (nomatch z), fun _ z => (nomatch z)⟩
  rcases w with w | w | ⟨i, w⟩ | ⟨j, w⟩
  · obtain ⟨⟨o, e, n, x⟩, nr⟩ := h.bF a w
    exact ⟨o, h.mono a o e nr n, n, x⟩
  · obtain ⟨i, hi⟩ := List.getElem?_of_mem w
    obtain ⟨o, _, t⟩ := h.box i a hi
    exact tp t
  · exact (h.ownF i a w).2.2
  · obtain ⟨o, _, t⟩ := h.tm j a w
    exact tp t
/-- how a frame goes on -/
structure LkS (F : Fm) (H : Hp) (F' : Fm) (H' : Hp) : Prop where
  B : F'.B = F.B
  He : F'.He = F.He
  r0 : (F'.ρ0, F'.self) = (F.ρ0, F.self)
  pre : F.ρ <+: F'.ρ
  sub : Sub (hide F.W H) (hide F'.W H')
theorem LkS.refl {F : Fm} {H : Hp} : LkS F H F H := ⟨rfl, rfl, rfl, List.prefix_refl _, Sub.refl _⟩
theorem LkS.trans {F F1 F2 : Fm} {H H1 H2 : Hp} (a : LkS F H F1 H1) (b : LkS F1 H1 F2 H2) : LkS F H F2 H2 := ⟨b.B.trans a.B, b.He.trans a.He, b.r0.trans a.r0, a.pre.trans b.pre, a.sub.trans b.sub⟩
/-- .. while an expression runs: the temporaries stay -/
structure Lk (F : Fm) (H : Hp) (F' : Fm) (H' : Hp) : Prop extends LkS F H F' H' where
  tmk : ∀ j a, F.tm j = some a → F'.tm j = some a
theorem Lk.s {F F' : Fm} {H H' : Hp} (l : Lk F H F' H') : LkS F H F' H' := l.toLkS
theorem Lk.refl : Lk F H F H := ⟨LkS.refl, fun _ _ h => h⟩
theorem Lk.trans {F1 F2 : Fm} {H1 H2 : Hp} (a : Lk F H F1 H1) (b : Lk F1 H1 F2 H2) : Lk F H F2 H2 := ⟨a.s.trans b.s, fun j x h => b.tmk j x (a.tmk j x h)⟩
theorem Rep.lkS {d : D} {v : V} (l : LkS F H F' H') (r : Rep K ca F.ρ (hide F.W H) d v) : Rep K ca F'.ρ (hide F'.W H') d v := r.mono l.sub l.pre
theorem Reps.lkS {d : List D} {v : List V} (l : LkS F H F' H') (r : Reps K ca F.ρ (hide F.W H) d v) : Reps K ca F'.ρ (hide F'.W H') d v := r.mono l.sub l.pre
theorem Rep.lk {d : D} {v : V} (l : Lk F H F' H') (r : Rep K ca F.ρ (hide F.W H) d v) : Rep K ca F'.ρ (hide F'.W H') d v := r.mono l.sub l.pre
theorem Reps.lk {d : List D} {v : List V} (l : Lk F H F' H') (r : Reps K ca F.ρ (hide F.W H) d v) : Reps K ca F'.ρ (hide F'.W H') d v := r.mono l.sub l.pre
theorem RepK.lk {d : List (D × D)} {v : List (Key × V)} (l : Lk F H F' H') (r : RepK K ca F.ρ (hide F.W H) d v) : RepK K ca F'.ρ (hide F'.W H') d v := r.mono l.sub l.pre
theorem RepF.lk {d : List (Str × D)} {v : List (Str × V)} (l : Lk F H F' H') (r : RepF K ca F.ρ (hide F.W H) d v) : RepF K ca F'.ρ (hide F'.W H') d v := r.mono l.sub l.pre

/-- what a handle stands for -/
def RepH (K : PySem.W.Frag) (ca : CA) (F : Fm) (σ : L2.St) (H : Hp) : Hd → V → Prop
  | .d x, v => Rep K ca F.ρ (hide F.W H) x v
  | .own i, v => σ[i]? = some (some v)
/-- what a content stands for: its own object may be hidden, its parts are not -/
def RepC (K : PySem.W.Frag) (ca : CA) (ρ : List Addr) (Hh H : Hp) (d : D) (v : V) : Prop := Rep K ca ρ Hh d v ∨ ∃ a, v = .ref a ∧ Top K ca ρ Hh H a d
theorem cont_rep {h : Hd} {v : V} {d : D} (ok : FrOk K ca F st σ H) (r : RepH K ca F σ H h v) (c : cont h st = some d) : RepC K ca F.ρ (hide F.W H) H d v := by
  have ub : ∀ {x : D}, Rep K ca F.ρ (hide F.W H) x v → unbox x st = some d → RepC K ca F.ρ (hide F.W H) H d v := fun {x} r c => by
    cases x <;> first
      | (simp only [unbox, Option.some.injEq] at c; subst c; exact .inl r)
      | skip
    cases r with
    | box e =>
      obtain ⟨o, e1, t⟩ := ok.box _ _ e
      simp only [unbox] at c
      rw [c] at e1; cases e1
      exact .inr ⟨_, rfl, t⟩
  cases h with
  | d x => exact ub r c
  | own i =>
    simp only [cont] at c
    split at c
    · rename_i o e
      cases c
      obtain ⟨a, _, e2, t⟩ := ok.own i _ e
      have r' : σ[i]? = some (some v) := r
      rw [e2] at r'; cases r'
      exact .inr ⟨a, rfl, t⟩
    · rename_i x e
      obtain ⟨v', e2, q⟩ := ok.val i x e
      have r' : σ[i]? = some (some v) := r
      rw [e2] at r'; cases r'
      exact ub q c
    · cases c
theorem RepH.lk {h : Hd} {v : V} (l : Lk F H F' H') (r : RepH K ca F σ H h v) : RepH K ca F' σ H' h v := by
  cases h with
  | d x => exact Rep.lk (K := K) (ca := ca) l r
  | own i => exact r

/-! ### contents, read -/
theorem hide_sub (W : Addr → Prop) (H : Hp) : Sub (hide W H) H := fun a o h _ => (hide_some.mp h).2
variable {ρ : List Addr} {W : Addr → Prop} {v : V}
theorem RepC.lst {ds : List D} (r : RepC K ca ρ (hide W H) H (.lst ds) v) : ∃ a vs, v = .ref a ∧ H a = some (.lst vs) ∧ Reps K ca ρ (hide W H) ds vs := by
  rcases r with r | ⟨a, rfl, vs, e, q⟩
  · cases r with
    | lst h q => exact ⟨_, _, rfl, (hide_sub W H).b.lst h, q⟩
  · exact ⟨a, vs, rfl, e, q⟩
theorem RepC.frl {ds : List D} (r : RepC K ca ρ (hide W H) H (.frl ds) v) : ∃ a vs, v = .ref a ∧ SqL K H a vs ∧ Reps K ca ρ (hide W H) ds vs := by
  rcases r with r | ⟨a, _, t⟩
  · cases r with
    | frl h q => exact ⟨_, _, rfl, (hide_sub W H).seq h, q⟩
  · exact t.elim
theorem RepC.tup {ds : List D} (r : RepC K ca ρ (hide W H) H (.tup ds) v) : ∃ a vs, v = .ref a ∧ SqT K H a vs ∧ Reps K ca ρ (hide W H) ds vs := by
  rcases r with r | ⟨a, _, t⟩
  · cases r with
    | tup h q => exact ⟨_, _, rfl, (hide_sub W H).seqT h, q⟩
  · exact t.elim
theorem RepC.dct {kvs : List (D × D)} (r : RepC K ca ρ (hide W H) H (.dct kvs) v) : ∃ a ks, v = .ref a ∧ Rd H a (.dK ks) ∧ RepK K ca ρ (hide W H) kvs ks := by
  rcases r with r | ⟨a, rfl, ks, e, q⟩
  · cases r with
    | dct h q => exact ⟨_, _, rfl, (hide_sub W H).b.dct h, q⟩
  · exact ⟨a, ks, rfl, .inl e, q⟩
theorem RepC.ins {c : Nat} {fs : List (Str × D)} (r : RepC K ca ρ (hide W H) H (.ins c fs) v) : ∃ a dx vs, v = .ref a ∧ H a = some (.ins (ca.cl c) dx vs) ∧ RepF K ca ρ (hide W H) fs vs := by
  rcases r with r | ⟨a, rfl, dx, vs, e, q⟩
  · cases r with
    | ins h q => exact ⟨_, _, _, rfl, (hide_sub W H).b.ins h, q⟩
  · exact ⟨a, dx, vs, rfl, e, q⟩
theorem RepC.non (r : RepC K ca ρ (hide W H) H .non v) : v = .non := by
  rcases r with r | ⟨a, _, t⟩
  · cases r; rfl
  · exact t.elim
theorem RepC.bl {b : Bool} (r : RepC K ca ρ (hide W H) H (.bl b) v) : v = .bl b := by
  rcases r with r | ⟨a, _, t⟩
  · cases r; rfl
  · exact t.elim
theorem RepC.int {b : Int} (r : RepC K ca ρ (hide W H) H (.int b) v) : v = .int b := by
  rcases r with r | ⟨a, _, t⟩
  · cases r; rfl
  · exact t.elim
theorem RepC.str {b : Str} (r : RepC K ca ρ (hide W H) H (.str b) v) : v = .str b := by
  rcases r with r | ⟨a, _, t⟩
  · cases r; rfl
  · exact t.elim
/-- list or tuple -/
theorem RepC.seq {d : D} {ds : List D} (r : RepC K ca ρ (hide W H) H d v) (s : seqOf d = some ds) : ∃ a vs, v = .ref a ∧ (SqL K H a vs ∨ SqT K H a vs) ∧ Reps K ca ρ (hide W H) ds vs := by
  cases d <;> simp [seqOf] at s
  · subst s; obtain ⟨a, vs, e, h, q⟩ := r.tup; exact ⟨a, vs, e, .inr h, q⟩
  · subst s; obtain ⟨a, vs, e, h, q⟩ := r.lst; exact ⟨a, vs, e, .inl (SqL.of h), q⟩
  · subst s; obtain ⟨a, vs, e, h, q⟩ := r.frl; exact ⟨a, vs, e, .inl h, q⟩

/-! ### a new object -/
theorem FrOk.lk_upd (ok : FrOk K ca F st σ H) {p : Addr} {o : HO} (e : H p = none) : Lk F H F (upd H p o) where
  B := rfl
  He := rfl
  r0 := rfl
  pre := List.prefix_refl _
  sub := fun a u h _ => hide_of (hide_some.mp h).1 (by rw [upd_ne (ne_of_none (hide_some.mp h).2 e)]; exact (hide_some.mp h).2)
  tmk := fun _ _ h => h
theorem FrOk.extN (ok : FrOk K ca F st σ H) (k : LamX.ExtN H H') (tb : LamX.Tabs ca.T H') (dm : ∀ a, H a ≠ none → H' a ≠ none) : Lk F H F H' ∧ FrOk K ca F st σ H' := by
  have sb : Sub (hide F.W H) (hide F.W H') := fun a u h n => hide_of (hide_some.mp h).1 (k _ _ (hide_some.mp h).2 n)
  have tp : ∀ {a o}, Top K ca F.ρ (hide F.W H) H a o → Top K ca F.ρ (hide F.W H') H' a o := fun {a o} t => by
    cases o <;> first | exact t.elim | skip
    · obtain ⟨vs, q, r⟩ := t; exact ⟨vs, k _ _ q (fun _ z => nomatch z), r.mono sb (List.prefix_refl _)⟩
    · obtain ⟨vs, q, r⟩ := t; exact ⟨vs, k _ _ q (fun _ z => nomatch z), r.mono sb (List.prefix_refl _)⟩
    · obtain ⟨dx, vs, q, r⟩ := t; exact ⟨dx, vs, k _ _ q (fun _ z => nomatch z), r.mono sb (List.prefix_refl _)⟩
  exact ⟨⟨⟨rfl, rfl, rfl, List.prefix_refl _, sb⟩, fun _ _ h => h⟩, ok.len, fun i d h => let ⟨v, e, r⟩ := ok.val i d h; ⟨v, e, r.mono sb (List.prefix_refl _)⟩, fun i o h => let ⟨a, e1, e2, t⟩ := ok.own i o h; ⟨a, e1, e2, tp t⟩,
    fun j a h => let ⟨o, e, t⟩ := ok.tm j a h; ⟨o, e, tp t⟩, fun j a h => let ⟨o, e, t⟩ := ok.box j a h; ⟨o, e, tp t⟩, ok.boxn, ok.nd, ok.ownI, ok.tmI, ok.ownT,
    fun i a h => let ⟨e1, e2, e3⟩ := ok.ownF i a h; ⟨e1, e2, let ⟨o, q1, q2, q3⟩ := e3; ⟨o, k _ _ q1 q2, q2, q3⟩⟩, ok.tmF, ok.bF, fun a u h n q => k _ _ (ok.mono a u h n q) q, ok.pre0, ok.new0, fun a h => dm a (ok.dom a h), tb, ok.slf⟩
theorem FrOk.same (ok : FrOk K ca F st σ H) (k : ∀ a u, H a = some u → H' a = some u) : FrOk K ca F st σ H' :=
  (ok.extN (fun a u h _ => k a u h) (ok.tab.ext k) fun a h e => by
    cases q : H a with
    | none => exact h q
    | some u => rw [k a u q] at e; cases e).2
/-- a thing that is no table and no code object is written -/
theorem tabs_upd {T : List (Addr × Str)} {a : Addr} {u o' : HO} (t : LamX.Tabs T H) (e : H a = some u) (n : NT u) (nx : ∀ φ, u ≠ .ext φ) : LamX.Tabs T (L2.upd H a o') := fun p hp => by
  obtain ⟨ps, h1, h2, h3⟩ := t p hp
  refine ⟨ps, by rw [upd_ne (fun z => by rw [z, e] at h1; exact n ps (Option.some.inj h1))]; exact h1, h2, fun pos cv hc => ?_⟩
  obtain ⟨c, e1, e2⟩ := h3 pos cv hc
  exact ⟨c, e1, by rw [upd_ne (fun z => by rw [z, e] at e2; exact nx _ (Option.some.inj e2))]; exact e2⟩
theorem Top.nt {Hh : Hp} {ρ : List Addr} {a : Addr} {o : D} (h : Top K ca ρ Hh H a o) : ∃ u, H a = some u ∧ NT u ∧ ∀ φ, u ≠ .ext φ := by
  cases o <;> first | exact h.elim | skip
  · obtain ⟨vs, e, _⟩ := h; exact ⟨_, e, fun _ z => (nomatch z), fun _ z => (nomatch z)⟩
  · obtain ⟨vs, e, _⟩ := h; exact ⟨_, e, fun _ z => (nomatch z), fun _ z => (nomatch z)⟩
  · obtain ⟨dx, vs, e, _⟩ := h; exact ⟨_, e, fun _ z => (nomatch z), fun _ z => (nomatch z)⟩
theorem Top.ntu {Hh : Hp} {ρ : List Addr} {a : Addr} {o : D} (h : Top K ca ρ Hh H a o) {u : HO} (e : H a = some u) : NT u := by
  obtain ⟨u', e', n, _⟩ := h.nt
  rw [e] at e'; cases e'
  exact n
theorem Top.mu {Hh : Hp} {ρ : List Addr} {a : Addr} {o : D} (h : Top K ca ρ Hh H a o) : Mu (H a) := h.nt
theorem dom_upd {a : Addr} {o' : HO} {b : Addr} (h : H b ≠ none) : L2.upd H a o' b ≠ none := by
  by_cases q : b = a
  · rw [q, upd_same]; simp
  · rw [upd_ne q]; exact h
theorem FrOk.upd (ok : FrOk K ca F st σ H) {p : Addr} {o : HO} (e : H p = none) : FrOk K ca F st σ (L2.upd H p o) := ok.same fun a u h => by rw [upd_ne (ne_of_none h e)]; exact h
theorem FrOk.seen (ok : FrOk K ca F st σ H) {p : Addr} {o : HO} (e : H p = none) : hide F.W (L2.upd H p o) p = some o := hide_of (ok.new e) upd_same
end
end Rf

set_option Elab.async false
set_option linter.all false
set_option maxRecDepth 100000
/-! Rf, part C: readings of evaluator pieces; the first rules. -/
namespace Rf
open PySem L2

/-- the classes' facts that stay through a proof -/
structure G extends Gd where
  K : PySem.W.Frag
  ca : CA
  fa : Nat → Addr

section
variable (g : G)
def ExD (F : Fm) (H : Hp) (d : Addr) (fs : List (Str × D)) : Prop := ∃ vs, hide F.W H d = some (.xd vs) ∧ RepF g.K g.ca F.ρ (hide F.W H) fs vs
abbrev Rl (α β : Type) := Fm → L2.St → Hp → α → β → Prop
def Post {α β : Type} (R : Rl α β) (E : L2.WX) (r : Out α) (F : Fm) (σ : L2.St) (H : Hp) (Q : β → Hp → Prop) : Prop := match r with
  | .ok a st' => ∀ F' b H', Lk F H F' H' → FrOk g.K g.ca F' st' σ H' → R F' σ H' a b → Q b H'
  | .exc c fs st' => ∀ F' H' d, Lk F H F' H' → FrOk g.K g.ca F' st' σ H' → ExD g F' H' d fs → E (.ref (g.ca.cl c)) (some d) σ H'
  | .bad => False
def RFw {α β : Type} (R : Rl α β) (E : L2.WX) (m : M α) (F : Fm) (st : Stt) (σ : L2.St) (H : Hp) (Q : β → Hp → Prop) : Prop :=
  FrOk g.K g.ca F st σ H ∧ Post g R E (m st) F σ H Q
def RF {α β : Type} (R : Rl α β) (E : L2.WX) (m : M α) : L2.St → Hp → (β → Hp → Prop) → Prop := fun σ H Q => ∃ F st, RFw g R E m F st σ H Q
def RH : Rl Hd V := fun F σ H h v => RepH g.K g.ca F σ H h v
def RD : Rl D V := fun F _ H d v => Rep g.K g.ca F.ρ (hide F.W H) d v
def RL : Rl (List D) (List V) := fun F _ H d v => Reps g.K g.ca F.ρ (hide F.W H) d v
def RB : Rl Bool Bool := fun _ _ _ a b => a = b
/-- an expression's reading -/
def RE (E : L2.WX) (m : M Hd) : TE := RF g (RH g) E m
def RT (E : L2.WX) (m : M Bool) : TT := RF g RB E m
def RA (E : L2.WX) (m : M (List D)) : TA := RF g (RL g) E m
end

section
variable {g : G} {α β α' β' : Type} {R : Rl α β} {R' : Rl α' β'} {E : L2.WX} {m : M α} {k : α → M α'} {F F1 : Fm} {st st1 : Stt} {σ : L2.St} {H H1 : Hp} {Q Q' : β → Hp → Prop}
theorem Post.mono {r : Out α} (h : Post g R E r F σ H Q) (w : ∀ b H, Q b H → Q' b H) : Post g R E r F σ H Q' := by
  cases r with
  | ok a st' => exact fun F' b H' l o q => w _ _ (h F' b H' l o q)
  | exc c fs st' => exact h
  | bad => exact h
theorem RFw.mono (h : RFw g R E m F st σ H Q) (w : ∀ b H, Q b H → Q' b H) : RFw g R E m F st σ H Q' := ⟨h.1, h.2.mono w⟩
/-- a step first -/
theorem Post.lk {r : Out α} (l : Lk F H F1 H1) (h : Post g R E r F σ H Q) : Post g R E r F1 σ H1 Q := by
  cases r with
  | ok a st' => exact fun F' b H' l' o q => h F' b H' (l.trans l') o q
  | exc c fs st' => exact fun F' H' d l' o q => h F' H' d (l.trans l') o q
  | bad => exact h
theorem RFw.bind {Q : β' → Hp → Prop} (h : RFw g R' E (bnd m k) F st σ H Q) :
    RFw g R E m F st σ H fun b H1 => ∃ F1 a st1, Lk F H F1 H1 ∧ R F1 σ H1 a b ∧ RFw g R' E (k a) F1 st1 σ H1 Q := by
  obtain ⟨ok, h⟩ := h
  refine ⟨ok, ?_⟩
  unfold bnd at h
  cases e : m st with
  | ok a st1 =>
    rw [e] at h
    exact fun F1 b H1 l o r => ⟨F1, a, st1, l, r, o, h.lk l⟩
  | exc c fs st1 =>
    rw [e] at h
    exact h
  | bad =>
    rw [e] at h
    exact h
/-- pure steps -/
theorem RFw.opt_bind {Q : β' → Hp → Prop} {o : Option α} (h : RFw g R' E (bnd (opt o) k) F st σ H Q) : ∃ a, o = some a ∧ RFw g R' E (k a) F st σ H Q := by
  obtain ⟨ok, h⟩ := h
  cases o with
  | none => exact h.elim
  | some a => exact ⟨a, rfl, ok, h⟩
theorem RFw.look_bind {Q : β' → Hp → Prop} {h : Hd} {v : V} {k : D → M α'} (w : RFw g R' E (bnd (look h) k) F st σ H Q) (r : RepH g.K g.ca F σ H h v) :
    ∃ d, RepC g.K g.ca F.ρ (hide F.W H) H d v ∧ RFw g R' E (k d) F st σ H Q := by
  obtain ⟨ok, w⟩ := w
  unfold bnd look at w
  cases e : cont h st with
  | none => rw [e] at w; exact w.elim
  | some d =>
    rw [e] at w
    exact ⟨d, cont_rep ok r e, ok, w⟩
theorem RFw.ret_end {a : α} (h : RFw g R E (ret a) F st σ H Q) {F' : Fm} {b : β} {H' : Hp} (l : Lk F H F' H') (o : FrOk g.K g.ca F' st σ H') (r : R F' σ H' a b) : Q b H' := h.2 F' b H' l o r
theorem RFw.here {a : α} {b : β} (h : RFw g R E (ret a) F st σ H Q) (r : R F σ H a b) : Q b H := h.2 F b H Lk.refl h.1 r
end

theorem _root_.L2.PE.weak {X : Cx} {e : Expr} {t t' : TE} (h : PE X e t) (w : ∀ σ H Q, t' σ H Q → t σ H Q) : PE X e t' := ⟨fun pins s σ H Q I q => h.run pins s σ H Q I (w σ H Q q)⟩
theorem _root_.L2.PT.weak {X : Cx} {e : Expr} {t t' : TT} (h : PT X e t) (w : ∀ σ H Q, t' σ H Q → t σ H Q) : PT X e t' := ⟨fun pins s σ H Q I q => h.run pins s σ H Q I (w σ H Q q)⟩
theorem _root_.L2.PA.weak {X : Cx} {e : List Expr} {t t' : TA} (h : PA X e t) (w : ∀ σ H Q, t' σ H Q → t σ H Q) : PA X e t' := ⟨fun po pins s σ H Q I q => h.run po pins s σ H Q I (w σ H Q q)⟩
theorem _root_.L2.PS.weak {X : Cx} {e : Stmt} {t t' : TS} (h : PS X e t) (w : ∀ D σ H, t' D σ H → t D σ H) : PS X e t' := ⟨fun pins s σ H D I q => h.run pins s σ H D I (w D σ H q)⟩
theorem _root_.L2.PSs.weak {X : Cx} {e : List Stmt} {t t' : TS} (h : PSs X e t) (w : ∀ D σ H, t' D σ H → t D σ H) : PSs X e t' := ⟨fun pins s σ H D I q => h.run pins s σ H D I (w D σ H q)⟩

/-! ### pieces -/
section
variable {g : G} {X : Cx} {E : L2.WX} {a b e : Expr} {ma mb : M Hd} {pos : Pos}
theorem rf_var {i : Nat} {x : Str} (hN : X.N[i]? = some x) (hv : Vis X.env.scope x) (hd : (x == ("__debug__" : Str)) = false) (hcd : (x == ("__classdict__" : Str)) = false) : PE X (.Name x pos) (RE g E (mVar i)) := by
  refine (pe_var hN hv hd hcd).weak fun σ H Q ⟨F, st, ok, h⟩ => ?_
  unfold mVar at h
  cases q : st.σ[i]? with
  | none => rw [q] at h; exact h.elim
  | some s =>
    rw [q] at h
    cases s with
    | no => exact h.elim
    | val d =>
      obtain ⟨v, e, r⟩ := ok.val i d q
      exact ⟨v, e, h F v H Lk.refl ok r⟩
    | own o =>
      obtain ⟨a, _, e, _⟩ := ok.own i o q
      exact ⟨_, e, h F _ H Lk.refl ok e⟩
theorem rf_c {d : D} {v : V} (h : PE X e (tC v)) (r : ∀ ρ H, Rep g.K g.ca ρ H d v) : PE X e (RE g E (mC d)) :=
  h.weak fun σ H Q ⟨F, st, ok, h⟩ => h F v H Lk.refl ok (r _ _)
/-- what is asked of a two-place operation -/
def OpOk (g : G) (op : D → D → Option D) (r : R2) : Prop := ∀ {F : Fm} {st : Stt} {σ : L2.St} {H : Hp} {x y z : D} {v u : V} {Q : VK}, FrOk g.K g.ca F st σ H → RepC g.K g.ca F.ρ (hide F.W H) H x v → RepC g.K g.ca F.ρ (hide F.W H) H y u → op x y = some z →
  (∀ w H', Lk F H F H' → FrOk g.K g.ca F st σ H' → Rep g.K g.ca F.ρ (hide F.W H') z w → Q w H') → r v u H Q
theorem rf_op2 {r : R2} {op : D → D → Option D} (hr : OpOk g op r) {σ : L2.St} {H : Hp} {Q : VK} (h : RE g E (mBin op ma mb) σ H Q) : tOp r (RE g E ma) (RE g E mb) σ H Q := by
  obtain ⟨F, st, h⟩ := h
  refine ⟨F, st, (RFw.bind (R := RH g) h).mono fun v H1 ⟨F1, h1, st1, l1, r1, h⟩ => ?_⟩
  refine ⟨F1, st1, (RFw.bind (R := RH g) h).mono fun u H2 ⟨F2, h2, st2, l2, r2, h⟩ => ?_⟩
  obtain ⟨x, rx, h⟩ := h.look_bind (RepH.lk l2 r1)
  obtain ⟨y, ry, h⟩ := h.look_bind r2
  obtain ⟨z, ez, h⟩ := h.opt_bind
  exact hr h.1 rx ry ez fun w H' l o q => h.ret_end l o q
theorem rf_bin {op : Operator} {r : R2} {f : D → D → Option D} (ho : OpR X (binaryOp op) r) (hr : OpOk g f r) (ha : PE X a (RE g E ma)) (hb : PE X b (RE g E mb)) : PE X (.BinOp a op b pos) (RE g E (mBin f ma mb)) :=
  (pe_op ho ha hb).weak fun _ _ _ h => rf_op2 hr h
end
/-- + -/
def rAddD (K : PySem.W.Frag) : R2 := fun x y H Q => rI0 (fun i j => .int (i + j)) x y H Q ∨ (∃ i j, x = .str i ∧ y = .str j ∧ i.length + j.length ≤ sizeLine ∧ Q (.str (i ++ j)) H) ∨ rCat x y H Q ∨ rCatA K x y H Q
theorem op_addD {X : Cx} : OpR X (binaryOp .Add) (rAddD X.K) := op_add.or (op_add_str.or (op_cat.or op_catA))
end Rf

set_option Elab.async false
set_option linter.all false
set_option maxRecDepth 100000
/-! Rf, part D: operators. -/
namespace Rf
open PySem L2

section
variable {K : PySem.W.Frag} {ca : CA} {ρ : List Addr} {W : Addr → Prop} {H : Hp} {v : V}
theorem RepC.tupR {ds : List D} (r : RepC K ca ρ (hide W H) H (.tup ds) v) : Rep K ca ρ (hide W H) (.tup ds) v := by
  rcases r with r | ⟨a, _, t⟩
  · exact r
  · exact t.elim
/-! ### flat data -/
mutual
def D.py : D → PyData
  | .non => .none
  | .bl b => .bool b
  | .int i => .int i
  | .str x => .str x
  | .tup xs => .tuple (D.pys xs)
  | .lst xs => .list (D.pys xs)
  | .frl xs => .list (D.pys xs)
  | _ => .none
def D.pys : List D → List PyData
  | [] => []
  | x :: xs => D.py x :: D.pys xs
end
mutual
theorem eqv_py : ∀ (a b : D) (n m : Nat), D.flat a n = true → D.flat b m = true → PyData.eqv a.py b.py = D.eqv a b
  | .non, b, _, _, _, hb => by cases b <;> simp [D.py, PyData.eqv, D.eqv, D.flat] at hb ⊢
  | .bl x, b, _, _, _, hb => by cases b <;> simp [D.py, PyData.eqv, D.eqv, D.flat] at hb ⊢
  | .int x, b, _, _, _, hb => by cases b <;> simp [D.py, PyData.eqv, D.eqv, D.flat] at hb ⊢
  | .str x, b, _, _, _, hb => by cases b <;> simp [D.py, PyData.eqv, D.eqv, D.flat] at hb ⊢
  | .tup xs, b, n, m, ha, hb => by
    cases b <;> simp [D.py, PyData.eqv, D.eqv, D.flat] at ha hb ⊢
    exact eqvs_py xs _ _ _ ha.2 hb.2
  | .lst xs, b, n, m, ha, hb => by
    cases b <;> simp [D.py, PyData.eqv, D.eqv, D.flat] at ha hb ⊢
    · exact eqvs_py xs _ _ _ ha.2 hb.2
    · exact eqvs_py xs _ _ _ ha.2 hb.2
  | .frl xs, b, n, m, ha, hb => by
    cases b <;> simp [D.py, PyData.eqv, D.eqv, D.flat] at ha hb ⊢
    · exact eqvs_py xs _ _ _ ha.2 hb.2
    · exact eqvs_py xs _ _ _ ha.2 hb.2
  | .dct _, _, _, _, ha, _ => by simp [D.flat] at ha
  | .ins _ _, _, _, _, ha, _ => by simp [D.flat] at ha
  | .box _, _, _, _, ha, _ => by simp [D.flat] at ha
theorem eqvs_py : ∀ (a b : List D) (n m : Nat), D.flats a n = true → D.flats b m = true → PyData.eqvAll (D.pys a) (D.pys b) = D.eqvs a b
  | [], [], _, _, _, _ => by simp [D.pys, PyData.eqvAll, D.eqvs]
  | [], _ :: _, _, _, _, _ => by simp [D.pys, PyData.eqvAll, D.eqvs]
  | _ :: _, [], _, _, _, _ => by simp [D.pys, PyData.eqvAll, D.eqvs]
  | x :: xs, y :: ys, n, m, ha, hb => by
    simp [D.flats] at ha hb
    simp only [D.pys, PyData.eqvAll, D.eqvs]
    rw [eqv_py x y n m ha.1 hb.1, eqvs_py xs ys n m ha.2 hb.2]
end
mutual
theorem flat_lay : ∀ (a : D) (n : Nat), D.flat a n = true → PyData.canLay0 a.py = true ∧ PyData.depth a.py ≤ n
  | .non, _, _ => by simp [D.py, PyData.canLay0, PyData.depth]
  | .bl x, _, _ => by simp [D.py, PyData.canLay0, PyData.depth]
  | .int x, _, _ => by simp [D.py, PyData.canLay0, PyData.depth]
  | .str x, _, h => by simp [D.flat] at h; simp [D.py, PyData.canLay0, PyData.depth, h]
  | .tup xs, n, h => by
    simp [D.flat] at h
    obtain ⟨h1, h2⟩ := flats_lay xs _ h.2
    simp only [D.py, PyData.canLay0, PyData.depth]
    exact ⟨h1, by omega⟩
  | .lst xs, n, h => by
    simp [D.flat] at h
    obtain ⟨h1, h2⟩ := flats_lay xs _ h.2
    simp only [D.py, PyData.canLay0, PyData.depth]
    exact ⟨h1, by omega⟩
  | .frl xs, n, h => by
    simp [D.flat] at h
    obtain ⟨h1, h2⟩ := flats_lay xs _ h.2
    simp only [D.py, PyData.canLay0, PyData.depth]
    exact ⟨h1, by omega⟩
  | .dct _, _, ha => by simp [D.flat] at ha
  | .ins _ _, _, ha => by simp [D.flat] at ha
  | .box _, _, ha => by simp [D.flat] at ha
theorem flats_lay : ∀ (a : List D) (n : Nat), D.flats a n = true → PyData.canLayAll0 (D.pys a) = true ∧ PyData.depthAll (D.pys a) ≤ n
  | [], _, _ => by simp [D.pys, PyData.canLayAll0, PyData.depthAll]
  | x :: xs, n, h => by
    simp [D.flats] at h
    obtain ⟨h1, h2⟩ := flat_lay x n h.1
    obtain ⟨h3, h4⟩ := flats_lay xs n h.2
    simp only [D.pys, PyData.canLayAll0, PyData.depthAll]
    refine ⟨by rw [h1, h3]; rfl, by omega⟩
end
theorem flat_shaped {a : D} (h : D.flat a 40 = true) : SeqAt.shaped a.py = true := by
  obtain ⟨h1, h2⟩ := flat_lay a 40 h
  unfold SeqAt.shaped
  rw [h1, decide_eq_true (by omega)]; rfl
theorem flats_shaped {a : List D} (h : D.flats a 40 = true) : SeqAt.shaped (.list (D.pys a)) = true := by
  obtain ⟨h1, h2⟩ := flats_lay a 40 h
  unfold SeqAt.shaped
  rw [Bool.and_eq_true, decide_eq_true_iff]
  simp only [PyData.canLay0, PyData.depth]
  exact ⟨h1, by omega⟩
mutual
theorem Rep.dp : ∀ {d : D} {v : V} {n : Nat}, Rep K ca ρ (hide W H) d v → D.flat d n = true → Dp K H v d.py
  | _, _, _, .non, _ => by simp only [D.py]; exact .non
  | _, _, _, .bl b, _ => by simp only [D.py]; exact .bl b
  | _, _, _, .int b, _ => by simp only [D.py]; exact .int b
  | _, _, _, .str b, _ => by simp only [D.py]; exact .str b
  | _, _, _, .tup h r, f => by
    simp [D.flat] at f
    simp only [D.py]
    exact .tup ((hide_sub W H).seqT h) (Reps.dp r f.2)
  | _, _, _, .lst h r, f => by
    simp [D.flat] at f
    simp only [D.py]
    exact .lst (SqL.of ((hide_sub W H).b.lst h)) (Reps.dp r f.2)
  | _, _, _, .frl h r, f => by
    simp [D.flat] at f
    simp only [D.py]
    exact .lst ((hide_sub W H).seq h) (Reps.dp r f.2)
  | _, _, _, .dct _ _, f => by simp [D.flat] at f
  | _, _, _, .ins _ _, f => by simp [D.flat] at f
  | _, _, _, .box _, f => by simp [D.flat] at f
theorem Reps.dp : ∀ {ds : List D} {vs : List V} {n : Nat}, Reps K ca ρ (hide W H) ds vs → D.flats ds n = true → DpAll K H vs (D.pys ds)
  | _, _, _, .nil, _ => by simp only [D.pys]; exact .nil
  | _, _, _, .cons h t, f => by
    simp [D.flats] at f
    simp only [D.pys]
    exact .cons (Rep.dp h f.1) (Reps.dp t f.2)
end
theorem RepC.dp {d : D} {n : Nat} (r : RepC K ca ρ (hide W H) H d v) (f : D.flat d n = true) : Dp K H v d.py := by
  cases d <;> first
    | (simp [D.flat] at f; done)
    | skip
  · cases r.non; simp only [D.py]; exact .non
  · cases r.bl; simp only [D.py]; exact .bl _
  · cases r.int; simp only [D.py]; exact .int _
  · cases r.str; simp only [D.py]; exact .str _
  · obtain ⟨a, vs, rfl, h, q⟩ := r.tup
    simp [D.flat] at f
    simp only [D.py]; exact .tup h (q.dp f.2)
  · obtain ⟨a, vs, rfl, h, q⟩ := r.lst
    simp [D.flat] at f
    simp only [D.py]; exact .lst (SqL.of h) (q.dp f.2)
  · obtain ⟨a, vs, rfl, h, q⟩ := r.frl
    simp [D.flat] at f
    simp only [D.py]; exact .lst h (q.dp f.2)
end

section
variable {g : G} {X : Cx}
theorem ok_add : OpOk g addD (rAddD g.K) := by
  intro F st σ H x y z v u Q ok rx ry e q
  cases x <;> cases y <;> simp [addD] at e
  · subst e
    cases rx.int; cases ry.int
    exact .inl ⟨_, _, rfl, rfl, q _ _ Lk.refl ok (.int _)⟩
  · obtain ⟨e1, e⟩ := e
    subst e
    cases rx.str; cases ry.str
    exact .inr (.inl ⟨_, _, rfl, rfl, by rw [← lim_eq]; exact e1, q _ _ Lk.refl ok (.str _)⟩)
  · obtain ⟨e1, e⟩ := e
    subst e
    rename_i xs ys
    obtain ⟨a, vs, rfl, h1, r1⟩ := rx.tup
    obtain ⟨b, us, rfl, h2, r2⟩ := ry.tup
    refine .inr (.inr (.inr ⟨a, b, vs, us, rfl, rfl, h1, h2, by rw [← r1.length, ← r2.length, ← lim_eq]; exact e1, fun e => ?_, fun _ e => ?_, fun _ _ p hp => ?_⟩))
    · subst e
      have : xs = [] := by have := r1.length; simpa using this
      subst this
      exact q _ _ Lk.refl ok ry.tupR
    · subst e
      have : ys = [] := by have := r2.length; simpa using this
      subst this
      rw [List.append_nil] at q
      exact q _ _ Lk.refl ok rx.tupR
    · have l := ok.lk_upd (o := .tup (vs ++ us)) hp
      exact q _ _ l (ok.upd hp) (.tup (SqT.of (ok.seen hp)) ((r1.append r2).lk l))
  · obtain ⟨e1, e⟩ := e
    subst e
    obtain ⟨a, vs, rfl, h1, r1⟩ := rx.lst
    obtain ⟨b, us, rfl, h2, r2⟩ := ry.lst
    refine .inr (.inr (.inl ⟨a, b, vs, us, rfl, rfl, h1, h2, by rw [← r1.length, ← r2.length, ← lim_eq]; exact e1, fun p hp => ?_⟩))
    have l := ok.lk_upd (o := .lst (vs ++ us)) hp
    exact q _ _ l (ok.upd hp) (.lst (ok.seen hp) ((r1.append r2).lk l))
theorem ok_sub : OpOk g subD (rI0 fun i j => .int (i - j)) := by
  intro F st σ H x y z v u Q ok rx ry e q
  cases x <;> cases y <;> simp [subD] at e
  subst e
  cases rx.int; cases ry.int
  exact ⟨_, _, rfl, rfl, q _ _ Lk.refl ok (.int _)⟩
theorem ok_fdiv : OpOk g fdivD (rI CDiv fun i j => .int (i / j)) := by
  intro F st σ H x y z v u Q ok rx ry e q
  cases x <;> cases y <;> simp [fdivD] at e
  obtain ⟨e1, e⟩ := e
  subst e
  cases rx.int; cases ry.int
  exact ⟨_, _, rfl, rfl, e1, q _ _ Lk.refl ok (.int _)⟩
theorem ok_mod : OpOk g modD (rI (fun _ j => 0 < j) fun i j => .int (i % j)) := by
  intro F st σ H x y z v u Q ok rx ry e q
  cases x <;> cases y <;> simp [modD] at e
  obtain ⟨e1, e⟩ := e
  subst e
  cases rx.int; cases ry.int
  exact ⟨_, _, rfl, rfl, e1, q _ _ Lk.refl ok (.int _)⟩
theorem ok_pow : OpOk g powD (rI CPow fun i j => .int (i ^ j.toNat)) := by
  intro F st σ H x y z v u Q ok rx ry e q
  cases x <;> cases y <;> simp [powD] at e
  obtain ⟨e1, e⟩ := e
  subst e
  cases rx.int; cases ry.int
  exact ⟨_, _, rfl, rfl, e1, q _ _ Lk.refl ok (.int _)⟩
def rMulD (K : PySem.W.Frag) : R2 := fun x y H Q => rI CMul (fun i j => .int (i * j)) x y H Q ∨ rRep x y H Q ∨ rRepT K x y H Q
theorem op_mulD : OpR X (binaryOp .Mult) (rMulD X.K) := op_mul.or (op_rep.or op_repT)
theorem Reps.flatten {K : PySem.W.Frag} {ca : CA} {ρ : List Addr} {H : Hp} {ds : List D} {vs : List V} (r : Reps K ca ρ H ds vs) : ∀ n, Reps K ca ρ H (List.replicate n ds).flatten (List.replicate n vs).flatten
  | 0 => .nil
  | n + 1 => by
    rw [List.replicate_succ, List.replicate_succ, List.flatten_cons, List.flatten_cons]
    exact r.append (r.flatten n)
theorem ok_mul : OpOk g mulD (rMulD g.K) := by
  intro F st σ H x y z v u Q ok rx ry e q
  cases x <;> cases y <;> simp [mulD] at e
  · obtain ⟨e1, e⟩ := e
    subst e
    cases rx.int; cases ry.int
    refine .inl ⟨_, _, rfl, rfl, ?_, q _ _ Lk.refl ok (.int _)⟩
    exact e1
  · obtain ⟨e1, e⟩ := e
    subst e
    obtain ⟨a, vs, rfl, h1, r1⟩ := rx.tup
    cases ry.int
    have hl := r1.length
    refine .inr (.inr ⟨a, _, vs, rfl, rfl, h1, ?_, e1.1, e1.2.1, by omega, fun p hp => ?_⟩)
    · intro z; subst z
      have := e1.2.2.2
      cases r1; simp at this
    · rename_i xs k
      have l := ok.lk_upd (o := .tup (List.replicate k.toNat vs).flatten) hp
      exact q _ _ l (ok.upd hp) (.tup (SqT.of (ok.seen hp)) ((r1.flatten _).lk l))
  · obtain ⟨e1, e⟩ := e
    subst e
    obtain ⟨a, vs, rfl, h1, r1⟩ := rx.lst
    cases ry.int
    have hl := r1.length
    rename_i xs k
    have hk : k.toNat ≤ 1000 := by omega
    have hm : vs.length * k.toNat ≤ 1000 * 1000 := Nat.mul_le_mul (by omega) hk
    refine .inr (.inl ⟨a, _, vs, rfl, rfl, h1, by omega, by omega, by rw [sizeLine_eq]; omega, fun p hp => ?_⟩)
    have l := ok.lk_upd (o := .lst (List.replicate k.toNat vs).flatten) hp
    exact q _ _ l (ok.upd hp) (.lst (ok.seen hp) ((r1.flatten _).lk l))
/-! ### comparisons -/
theorem ok_eqv : OpOk g eqvD (rEqD g.K) := by
  intro F st σ H x y z v u Q ok rx ry e q
  unfold eqvD eqD at e
  split at e
  · rename_i f
    rw [Bool.and_eq_true] at f
    simp at e
    subst e
    refine ⟨_, _, rx.dp f.1, ry.dp f.2, flat_shaped f.1, flat_shaped f.2, ?_⟩
    rw [eqv_py x y 40 40 f.1 f.2]
    exact q _ _ Lk.refl ok (.bl _)
  · simp at e
theorem ok_nev : OpOk g nevD (rNeD g.K) := by
  intro F st σ H x y z v u Q ok rx ry e q
  unfold nevD eqD at e
  split at e
  · rename_i f
    rw [Bool.and_eq_true] at f
    simp at e
    subst e
    refine ⟨_, _, rx.dp f.1, ry.dp f.2, flat_shaped f.1, flat_shaped f.2, ?_⟩
    rw [eqv_py x y 40 40 f.1 f.2]
    exact q _ _ Lk.refl ok (.bl _)
  · simp at e
def rLtD : R2 := fun x y H Q => rI0 (fun i j => .bl (decide (i < j))) x y H Q ∨ (∃ i j, x = .str i ∧ y = .str j ∧ Q (.bl (decide (i.cps.toList < j.cps.toList))) H)
theorem op_ltD : OpR X (compareOp .Lt) rLtD := op_lt.or op_lt_str
theorem ok_lt : OpOk g ltD rLtD := by
  intro F st σ H x y z v u Q ok rx ry e q
  cases x <;> cases y <;> simp only [ltD, Option.some.injEq, reduceCtorEq] at e
  · subst e
    cases rx.int; cases ry.int
    exact .inl ⟨_, _, rfl, rfl, q _ _ Lk.refl ok (.bl _)⟩
  · subst e
    cases rx.str; cases ry.str
    exact .inr ⟨_, _, rfl, rfl, q _ _ Lk.refl ok (.bl _)⟩
def rGtD : R2 := fun x y H Q => rI0 (fun i j => .bl (decide (j < i))) x y H Q ∨ (∃ i j, x = .str i ∧ y = .str j ∧ Q (.bl (decide (j.cps.toList < i.cps.toList))) H)
theorem op_gtD : OpR X (compareOp .Gt) rGtD := op_gt.or op_gt_str
theorem ok_gt : OpOk g gtD rGtD := by
  intro F st σ H x y z v u Q ok rx ry e q
  cases x <;> cases y <;> simp only [gtD, Option.some.injEq, reduceCtorEq] at e
  · subst e
    cases rx.int; cases ry.int
    exact .inl ⟨_, _, rfl, rfl, q _ _ Lk.refl ok (.bl _)⟩
  · subst e
    cases rx.str; cases ry.str
    exact .inr ⟨_, _, rfl, rfl, q _ _ Lk.refl ok (.bl _)⟩
theorem ok_le : OpOk g leD (rI0 fun i j => .bl (decide (i ≤ j))) := by
  intro F st σ H x y z v u Q ok rx ry e q
  cases x <;> cases y <;> simp [leD, cmpI] at e
  subst e
  cases rx.int; cases ry.int
  exact ⟨_, _, rfl, rfl, q _ _ Lk.refl ok (.bl _)⟩
theorem ok_ge : OpOk g geD (rI0 fun i j => .bl (decide (j ≤ i))) := by
  intro F st σ H x y z v u Q ok rx ry e q
  cases x <;> cases y <;> simp [geD, cmpI] at e
  subst e
  cases rx.int; cases ry.int
  exact ⟨_, _, rfl, rfl, q _ _ Lk.refl ok (.bl _)⟩
/-- is None | True | False -/
def rIsD : R2 := fun x y H Q => (y = .non ∧ Q (.bl (decide (x = .non))) H) ∨ rIsB x y H Q
theorem op_isD : OpR X (compareOp .Is) rIsD := op_isN.or op_isBl
def rNotD : R2 := fun x y H Q => (y = .non ∧ Q (.bl (!decide (x = .non))) H) ∨ rNotB x y H Q
theorem op_notD : OpR X (compareOp .IsNot) rNotD := op_notN.or op_notBl
theorem RepC.isnon {K : PySem.W.Frag} {ca : CA} {ρ : List Addr} {W : Addr → Prop} {H : Hp} {v : V} {x : D} (r : RepC K ca ρ (hide W H) H x v) : decide (v = .non) = isNon x := by
  cases x
  · cases r.non; rfl
  · cases r.bl; rfl
  · cases r.int; rfl
  · cases r.str; rfl
  · obtain ⟨a, vs, rfl, _⟩ := r.tup; rfl
  · obtain ⟨a, vs, rfl, _⟩ := r.lst; rfl
  · obtain ⟨a, vs, rfl, _⟩ := r.frl; rfl
  · obtain ⟨a, vs, rfl, _⟩ := r.dct; rfl
  · obtain ⟨a, b, vs, rfl, _⟩ := r.ins; rfl
  · rcases r with r | ⟨a, rfl, t⟩
    · cases r; rfl
    · exact t.elim
  · rcases r with r | ⟨a, rfl, t⟩
    · cases r; rfl
    · exact t.elim
theorem ok_isn : OpOk g isnD rIsD := by
  intro F st σ H x y z v u Q ok rx ry e q
  cases y <;> simp only [isnD, reduceCtorEq] at e
  · simp only [Option.some.injEq] at e
    subst e
    cases ry.non
    exact .inl ⟨rfl, by rw [rx.isnon]; exact q _ _ Lk.refl ok (.bl _)⟩
  · cases x <;> simp only [Option.some.injEq, reduceCtorEq] at e
    subst e
    cases rx.bl; cases ry.bl
    exact .inr ⟨_, _, rfl, rfl, q _ _ Lk.refl ok (.bl _)⟩
theorem ok_notn : OpOk g notnD rNotD := by
  intro F st σ H x y z v u Q ok rx ry e q
  cases y <;> simp only [notnD, isnD, reduceCtorEq] at e
  · simp only [Option.some.injEq] at e
    subst e
    cases ry.non
    exact .inl ⟨rfl, by rw [rx.isnon]; exact q _ _ Lk.refl ok (.bl _)⟩
  · cases x <;> simp only [Option.some.injEq, reduceCtorEq] at e
    subst e
    cases rx.bl; cases ry.bl
    exact .inr ⟨_, _, rfl, rfl, q _ _ Lk.refl ok (.bl _)⟩
/-! ### in -/
def rInT (K : PySem.W.Frag) (neg : Bool) : R2 := fun x y H Q => ∃ d ds, Dp K H x d ∧ Dp K H y (.tuple ds) ∧ SeqAt.shaped d = true ∧ SeqAt.shaped (.tuple ds) = true ∧ Q (.bl (if neg then !ds.any fun z => PyData.eqv z d else ds.any fun z => PyData.eqv z d)) H
theorem op_inT (hu : X.A.units + 65 < cLine) : OpR X (compareOp .In) (rInT X.K false) := by
  intro pins s σ H x y v u Q I rx ry h
  obtain ⟨d, ds, hd, he, sd, se, q⟩ := h
  obtain ⟨as, r1⟩ := Dp.reads I d x v hd rx
  obtain ⟨bs, r2⟩ := Dp.reads I (.tuple ds) y u he ry
  exact SeqAt.in_tuple_reads r2 r1 (SeqAt.canLay_of_shaped se) (SeqAt.canLay_of_shaped sd) (PyProof.Rows.room_in_shaped sd hu) ⟨.bl _, H, I, rfl, q⟩
theorem op_ninT (hu : X.A.units + 65 < cLine) : OpR X (compareOp .NotIn) (rInT X.K true) := by
  intro pins s σ H x y v u Q I rx ry h
  obtain ⟨d, ds, hd, he, sd, se, q⟩ := h
  obtain ⟨as, r1⟩ := Dp.reads I d x v hd rx
  obtain ⟨bs, r2⟩ := Dp.reads I (.tuple ds) y u he ry
  exact SeqAt.notIn_tuple_reads r2 r1 (SeqAt.canLay_of_shaped se) (SeqAt.canLay_of_shaped sd) (PyProof.Rows.room_in_shaped sd hu) ⟨.bl _, H, I, rfl, q⟩
def rInK (neg : Bool) : R2 := fun x y H Q => ∃ a o, y = .ref a ∧ DGet H a x o ∧ Q (.bl (if neg then !o.isSome else o.isSome)) H
theorem op_inK (hu : X.A.units + 1 < cLine) : OpR X (compareOp .In) (rInK false) := by
  intro pins s σ H x y v u Q I rx ry h
  obtain ⟨a, o, rfl, hd, q⟩ := h
  cases ry
  exact d_in hu I hd rx fun s3 I3 => ⟨.bl o.isSome, H, I3, rfl, q⟩
theorem op_ninK (hu : X.A.units + 1 < cLine) : OpR X (compareOp .NotIn) (rInK true) := by
  intro pins s σ H x y v u Q I rx ry h
  obtain ⟨a, o, rfl, hd, q⟩ := h
  cases ry
  exact d_notIn hu I hd rx fun s3 I3 => ⟨.bl (!o.isSome), H, I3, rfl, q⟩
def rInAll (K : PySem.W.Frag) : R2 := fun x y H Q => rInD K x y H Q ∨ rInT K false x y H Q ∨ rInK false x y H Q ∨ (∃ (c : Nat) (z : Str), x = .str ⟨#[c]⟩ ∧ y = .str z ∧ Q (.bl (decide (c ∈ z.cps.toList))) H)
def rNinAll (K : PySem.W.Frag) : R2 := fun x y H Q => rNotInD K x y H Q ∨ rInT K true x y H Q ∨ rInK true x y H Q ∨ (∃ (c : Nat) (z : Str), x = .str ⟨#[c]⟩ ∧ y = .str z ∧ Q (.bl (!decide (c ∈ z.cps.toList))) H)
theorem op_inAll (hu : X.A.units + 65 < cLine) : OpR X (compareOp .In) (rInAll X.K) := (op_inD hu).or ((op_inT hu).or ((op_inK (by omega)).or op_in_sign))
theorem op_ninAll (hu : X.A.units + 65 < cLine) : OpR X (compareOp .NotIn) (rNinAll X.K) := (op_notInD hu).or ((op_ninT hu).or ((op_ninK (by omega)).or op_notIn_sign))
theorem any_py (x : D) (f : D.flat x 40 = true) : ∀ (ds : List D), D.flats ds 40 = true → ((D.pys ds).any fun z => PyData.eqv z x.py) = ds.any fun z => D.eqv z x
  | [], _ => rfl
  | y :: ys, h => by
    simp only [D.flats, Bool.and_eq_true] at h
    simp only [D.pys, List.any_cons]
    rw [eqv_py y x 40 40 h.1 f, any_py x f ys h.2]
theorem flats_shapedT {a : List D} (h : D.flats a 40 = true) : SeqAt.shaped (.tuple (D.pys a)) = true := by
  obtain ⟨h1, h2⟩ := flats_lay a 40 h
  unfold SeqAt.shaped
  rw [Bool.and_eq_true, decide_eq_true_iff]
  simp only [PyData.canLay0, PyData.depth]
  exact ⟨h1, by omega⟩
theorem kV_key {d : D} {k : Key} {K : PySem.W.Frag} {ca : CA} {ρ : List Addr} {W : Addr → Prop} {H : Hp} {v : V} (r : RepC K ca ρ (hide W H) H d v) (h : keyD d = some k) : v = kV k := by
  rcases keyD_kV h with ⟨i, rfl, rfl⟩ | ⟨x, rfl, rfl⟩
  · exact r.int
  · exact r.str
theorem kV_keyR {d : D} {k : Key} {K : PySem.W.Frag} {ca : CA} {ρ : List Addr} {H : Hp} {v : V} (r : Rep K ca ρ H d v) (h : keyD d = some k) : v = kV k := by
  rcases keyD_kV h with ⟨i, rfl, rfl⟩ | ⟨x, rfl, rfl⟩
  · cases r; rfl
  · cases r; rfl
end
end Rf

set_option Elab.async false
set_option linter.all false
set_option maxRecDepth 100000
/-! Rf, part E: dicts; in; displays; subscripts. -/
namespace Rf
open PySem L2

section
variable {K : PySem.W.Frag} {ca : CA} {ρ : List Addr} {H : Hp} {v : V}
theorem RepK.look {x : D} {k : Key} (e : keyD x = some k) : ∀ {kvs : List (D × D)} {ks : List (Key × V)}, RepK K ca ρ H kvs ks →
    (valV ks k = none ∧ getK kvs x = none) ∨ ∃ d v, valV ks k = some v ∧ getK kvs x = some d ∧ Rep K ca ρ H d v
  | _, _, .nil => .inl ⟨rfl, rfl⟩
  | _, _, .cons (d := d) (e := y) (k := j) (v := v) hk h t => by
    by_cases q : j = k
    · right
      refine ⟨y, v, valV_pos q, ?_, h⟩
      unfold getK
      rw [List.find?_cons_of_pos (by simp [hk, e, q])]; rfl
    · rw [valV_neg q]
      have e2 : ∀ l, getK ((d, y) :: l) x = getK l x := fun l => by
        unfold getK
        rw [List.find?_cons_of_neg (by simp [hk, e]; exact q)]
      rw [e2]
      exact t.look e
theorem RepK.any {x : D} {k : Key} (e : keyD x = some k) : ∀ {kvs : List (D × D)} {ks : List (Key × V)}, RepK K ca ρ H kvs ks → (kvs.any fun p => decide (keyD p.1 = keyD x)) = ks.any fun p => decide (p.1 = k)
  | _, _, .nil => rfl
  | _, _, .cons (d := d) (e := y) (k := j) (v := v) hk h t => by
    rw [List.any_cons, List.any_cons, t.any e]
    congr 1
    rw [hk, e]; simp
theorem RepK.append : ∀ {ds es : List (D × D)} {vs us : List (Key × V)}, RepK K ca ρ H ds vs → RepK K ca ρ H es us → RepK K ca ρ H (ds ++ es) (vs ++ us)
  | _, _, _, _, .nil, r => r
  | _, _, _, _, .cons hk h t, r => .cons hk h (t.append r)
theorem RepK.put {x d : D} {k : Key} (e : keyD x = some k) (r : Rep K ca ρ H d v) {kvs : List (D × D)} {ks : List (Key × V)} (t : RepK K ca ρ H kvs ks) : RepK K ca ρ H (putD kvs x d) (putK ks k v) := by
  unfold putD putK
  rw [t.any e]
  split
  · have : ∀ {kvs : List (D × D)} {ks : List (Key × V)}, RepK K ca ρ H kvs ks → RepK K ca ρ H (kvs.map fun p => if keyD p.1 = keyD x then (p.1, d) else p) (ks.map fun kv => if kv.1 = k then (kv.1, v) else kv) := by
      intro kvs ks t
      induction kvs generalizing ks with
      | nil => cases t; exact .nil
      | cons p ps ih =>
        cases t with
        | cons hk h t =>
          rename_i d' e' k' v' vs'
          rw [List.map_cons, List.map_cons]
          by_cases q : k' = k
          · have q2 : keyD d' = keyD x := by rw [hk, e, q]
            rw [if_pos q2, if_pos q]
            exact .cons hk r (ih t)
          · have q2 : ¬ keyD d' = keyD x := by rw [hk, e]; exact fun z => q (Option.some.inj z)
            rw [if_neg q2, if_neg q]
            exact .cons hk h (ih t)
    exact this t
  · exact t.append (.cons e r .nil)
theorem RepK.drop {x : D} {k : Key} (e : keyD x = some k) : ∀ {kvs : List (D × D)} {ks : List (Key × V)}, RepK K ca ρ H kvs ks → RepK K ca ρ H (dropD kvs x) (dropK ks k)
  | _, _, .nil => .nil
  | _, _, .cons (d := d) (e := y) (k := j) (v := v) hk h t => by
    unfold dropD dropK
    by_cases q : j = k
    · rw [List.filter_cons_of_neg (by simp [hk, e, q]), List.filter_cons_of_neg (by simp [q])]
      exact t.drop e
    · rw [List.filter_cons_of_pos (by simp [hk, e]; exact q), List.filter_cons_of_pos (by simp [q])]
      exact .cons hk h (t.drop e)
end

section
variable {g : G} {X : Cx}
theorem ok_in : OpOk g invD (rInAll g.K) := by
  intro F st σ H x y z v u Q ok rx ry e q
  have flat : ∀ {xs : List D} {k : Bool}, (if D.flat x 40 && D.flats xs 40 then some (xs.any fun z => D.eqv z x) else none) = some k → D.flat x 40 = true ∧ D.flats xs 40 = true ∧ k = ((D.pys xs).any fun z => PyData.eqv z x.py) := fun {xs k} e => by
    split at e
    · rename_i f
      rw [Bool.and_eq_true] at f
      exact ⟨f.1, f.2, by rw [any_py x f.1 xs f.2]; exact (Option.some.inj e).symm⟩
    · cases e
  cases y <;> simp only [invD, inD, Option.map_none, reduceCtorEq] at e
  · cases x <;> simp only [reduceCtorEq] at e
    rename_i z c
    split at e
    · rename_i hc
      simp only [Option.some.injEq] at e
      subst e
      cases rx.str; cases ry.str
      have ec : c = ⟨#[c.cps.getD 0 0]⟩ := by
        obtain ⟨⟨l⟩⟩ := c
        match l, hc with
        | [a], _ => rfl
      refine .inr (.inr (.inr ⟨c.cps.getD 0 0, z, by rw [← ec], rfl, ?_⟩))
      exact q _ _ Lk.refl ok (.bl _)
    · cases e
  · rename_i xs
    simp only [Option.map_eq_some_iff] at e
    obtain ⟨k, e, rfl⟩ := e
    obtain ⟨f1, f2, rfl⟩ := flat e
    obtain ⟨a, vs, rfl, h, r⟩ := ry.tup
    exact .inr (.inl ⟨_, _, rx.dp f1, .tup h (r.dp f2), flat_shaped f1, flats_shapedT f2, q _ _ Lk.refl ok (.bl _)⟩)
  · rename_i xs
    simp only [Option.map_eq_some_iff] at e
    obtain ⟨k, e, rfl⟩ := e
    obtain ⟨f1, f2, rfl⟩ := flat e
    obtain ⟨a, vs, rfl, h, r⟩ := ry.lst
    exact .inl ⟨_, _, rx.dp f1, .lst (SqL.of h) (r.dp f2), flat_shaped f1, flats_shaped f2, q _ _ Lk.refl ok (.bl _)⟩
  · rename_i xs
    simp only [Option.map_eq_some_iff] at e
    obtain ⟨k, e, rfl⟩ := e
    obtain ⟨f1, f2, rfl⟩ := flat e
    obtain ⟨a, vs, rfl, h, r⟩ := ry.frl
    exact .inl ⟨_, _, rx.dp f1, .lst h (r.dp f2), flat_shaped f1, flats_shaped f2, q _ _ Lk.refl ok (.bl _)⟩
  · rename_i kvs
    split at e
    · rename_i hk
      simp only [Option.some.injEq] at e
      subst e
      obtain ⟨k, hk⟩ := Option.isSome_iff_exists.mp hk
      obtain ⟨a, ks, rfl, h, r⟩ := ry.dct
      have ev := kV_key rx hk
      subst ev
      refine .inr (.inr (.inl ⟨a, _, rfl, DGet.kR h, ?_⟩))
      have e2 : (valV ks k).isSome = (getK kvs x).isSome := by
        rcases r.look hk with ⟨e1, e2⟩ | ⟨d, v, e1, e2, _⟩ <;> rw [e1, e2] <;> rfl
      simp only [Bool.false_eq_true, if_false]
      rw [e2]
      exact q _ _ Lk.refl ok (.bl _)
    · cases e
theorem rInAll_not {K : PySem.W.Frag} {x y : V} {H : Hp} {Q : VK} (h : rInAll K x y H fun w H' => ∃ k, w = .bl k ∧ Q (.bl (!k)) H') : rNinAll K x y H Q := by
  rcases h with ⟨d, ds, h1, h2, h3, h4, k, e, q⟩ | ⟨d, ds, h1, h2, h3, h4, k, e, q⟩ | ⟨a, o, h1, h2, k, e, q⟩ | ⟨c, z, h1, h2, k, e, q⟩
  · cases e; exact .inl ⟨d, ds, h1, h2, h3, h4, q⟩
  · cases e; exact .inr (.inl ⟨d, ds, h1, h2, h3, h4, q⟩)
  · cases e; exact .inr (.inr (.inl ⟨a, o, h1, h2, q⟩))
  · cases e; exact .inr (.inr (.inr ⟨c, z, h1, h2, q⟩))
theorem invD_bl {x y z : D} (h : invD x y = some z) : ∃ k, z = .bl k := by
  unfold invD at h
  repeat' split at h
  all_goals first
    | (cases h; done)
    | (simp only [Option.some.injEq] at h; exact ⟨_, h.symm⟩)
    | (simp only [Option.map_eq_some_iff] at h; obtain ⟨k, _, e⟩ := h; exact ⟨k, e.symm⟩)
theorem ok_nin : OpOk g ninvD (rNinAll g.K) := by
  intro F st σ H x y z v u Q ok rx ry e q
  unfold ninvD at e
  split at e
  · rename_i k hk
    simp only [Option.some.injEq] at e
    subst e
    refine rInAll_not (ok_in ok rx ry hk fun w H' l o r => ?_)
    cases r
    exact ⟨k, rfl, q _ _ l o (.bl _)⟩
  · cases e
end
end Rf

set_option Elab.async false
set_option linter.all false
set_option maxRecDepth 100000
/-! Rf, part G: tests, logic, displays, subscripts. -/
namespace Rf
open PySem L2

section
variable {g : G} {α β α' β' : Type} {R : Rl α β} {R' : Rl α' β'} {E : L2.WX} {m : M α} {k : α → M α'} {F F1 : Fm} {st st1 : Stt} {σ : L2.St} {H H1 : Hp}
theorem RFw.bl_bind {h : Hd} {v : V} {Q : β' → Hp → Prop} {k : Bool → M α'} (w : RFw g R' E (bnd (look h) fun d => bnd (opt (asBl d)) k) F st σ H Q) (r : RepH g.K g.ca F σ H h v) :
    ∃ b, v = .bl b ∧ RFw g R' E (k b) F st σ H Q := by
  obtain ⟨d, rc, w⟩ := w.look_bind r
  obtain ⟨b, e, w⟩ := w.opt_bind
  cases d <;> simp only [asBl, reduceCtorEq, Option.some.injEq] at e
  subst e
  exact ⟨_, rc.bl, w⟩
theorem RFw.bl_end {h : Hd} {v : V} {Q : Bool → Hp → Prop} (w : RFw g RB E (bnd (look h) fun d => opt (asBl d)) F st σ H Q) (r : RepH g.K g.ca F σ H h v) : ∃ b, v = .bl b ∧ Q b H := by
  obtain ⟨d, rc, w⟩ := w.look_bind r
  cases d <;> first
    | exact w.2.elim
    | skip
  exact ⟨_, rc.bl, w.here rfl⟩
end

section
variable {g : G} {X : Cx} {E : L2.WX} {a b c e : Expr} {ma mb mc : M Hd} {ta tb tc : M Bool} {pos : Pos}
/-- a comparison, as a value, as a test -/
theorem rf_cmp {op : CmpOp} {r : R2} {f : D → D → Option D} (ho : OpR X (compareOp op) r) (hr : OpOk g f r) (ha : PE X a (RE g E ma)) (hb : PE X b (RE g E mb)) (hm : behindInMarks op b = false) :
    PE X (.Compare a [op] [b] pos) (RE g E (mBin f ma mb)) := (pe_cmpR ho ha hb hm).weak fun _ _ _ h => rf_op2 hr h
theorem tb_weak {t : TE} {m : M Hd} (w : ∀ σ H Q, RE g E m σ H Q → t σ H Q) {σ : L2.St} {H : Hp} {Q : Bool → Hp → Prop} (h : RT g E (mTB m) σ H Q) : t σ H fun x H' => ∃ k, x = .bl k ∧ Q k H' := by
  obtain ⟨F, st, h⟩ := h
  refine w _ _ _ ⟨F, st, (RFw.bind (R := RH g) h).mono fun v H1 ⟨F1, h1, st1, l1, r1, h⟩ => ?_⟩
  exact h.bl_end r1
theorem rf_cmpT {op : CmpOp} {r : R2} {f : D → D → Option D} (ho : OpR X (compareOp op) r) (hr : OpOk g f r) (ha : PE X a (RE g E ma)) (hb : PE X b (RE g E mb)) (hm : behindInMarks op b = false) :
    PT X (.Compare a [op] [b] pos) (RT g E (mTB (mBin f ma mb))) := (pt_cmpR ho ha hb hm).weak fun _ _ _ h => tb_weak (fun _ _ _ h => rf_op2 hr h) h
theorem rf_chain2 {r r' : R2} {f f' : D → D → Option D} (hr : OpOk g f r) (hr' : OpOk g f' r') {σ : L2.St} {H : Hp} {Q : VK} (h : RE g E (mChain f f' ma mb mc) σ H Q) : tChain r r' (RE g E ma) (RE g E mb) (RE g E mc) σ H Q := by
  obtain ⟨F, st, h⟩ := h
  refine ⟨F, st, (RFw.bind (R := RH g) h).mono fun v H1 ⟨F1, h1, st1, l1, r1, h⟩ => ?_⟩
  refine ⟨F1, st1, (RFw.bind (R := RH g) h).mono fun u H2 ⟨F2, h2, st2, l2, r2, h⟩ => ?_⟩
  obtain ⟨x, rx, h⟩ := h.look_bind (RepH.lk l2 r1)
  obtain ⟨y, ry, h⟩ := h.look_bind r2
  obtain ⟨z, ez, h⟩ := h.opt_bind
  obtain ⟨t, et, h⟩ := h.opt_bind
  cases z <;> simp only [asBl, reduceCtorEq, Option.some.injEq] at et
  subst et
  refine hr h.1 rx ry ez fun w H3 l o q => ?_
  cases q
  refine ⟨_, rfl, ?_⟩
  have h : RFw g (RH g) E _ F2 st2 σ H3 Q := ⟨o, h.2.lk l⟩
  split at h
  · rename_i ht
    rw [if_pos ht]
    refine ⟨F2, st2, (RFw.bind (R := RH g) h).mono fun w H4 ⟨F4, h4, st4, l4, r4, h⟩ => ?_⟩
    obtain ⟨y', ry', h⟩ := h.look_bind (RepH.lk l4 (RepH.lk l r2))
    obtain ⟨w', rw', h⟩ := h.look_bind r4
    obtain ⟨u', eu', h⟩ := h.opt_bind
    exact hr' h.1 ry' rw' eu' fun w H' l o q => h.ret_end l o q
  · rename_i ht
    rw [if_neg ht]
    exact h.here (.bl _)
theorem rf_chain {op op' : CmpOp} {r r' : R2} {f f' : D → D → Option D} (ho : OpR X (compareOp op) r) (ho' : OpR X (compareOp op') r') (hr : OpOk g f r) (hr' : OpOk g f' r') (ha : PE X a (RE g E ma)) (hb : PE X b (RE g E mb)) (hc : PE X c (RE g E mc))
    (hm : lastMarks [op, op'] [b, c] = false) : PE X (.Compare a [op, op'] [b, c] pos) (RE g E (mChain f f' ma mb mc)) := (pe_chain ho ho' ha hb hc hm).weak fun _ _ _ h => rf_chain2 hr hr' h
theorem rf_chainT {op op' : CmpOp} {r r' : R2} {f f' : D → D → Option D} (ho : OpR X (compareOp op) r) (ho' : OpR X (compareOp op') r') (hr : OpOk g f r) (hr' : OpOk g f' r') (ha : PE X a (RE g E ma)) (hb : PE X b (RE g E mb)) (hc : PE X c (RE g E mc))
    (hm : lastMarks [op, op'] [b, c] = false) : PT X (.Compare a [op, op'] [b, c] pos) (RT g E (mTB (mChain f f' ma mb mc))) := (pt_chain ho ho' ha hb hc hm).weak fun _ _ _ h => tb_weak (fun _ _ _ h => rf_chain2 hr hr' h) h
/-- not -/
theorem rf_notT (ha : PT X a (RT g E ta)) : PT X (.UnaryOp .Not a pos) (RT g E (mNotT ta)) := (pt_not ha).weak fun σ H Q ⟨F, st, h⟩ =>
  ⟨F, st, (RFw.bind (R := RB) h).mono fun b H1 ⟨F1, b', st1, l1, r1, h⟩ => by
    cases r1
    exact h.here rfl⟩
theorem rf_notV (ha : PE X a (RE g E ma)) : PE X (.UnaryOp .Not a pos) (RE g E (mNotV ma)) := (pe_not ha).weak fun σ H Q ⟨F, st, h⟩ =>
  ⟨F, st, (RFw.bind (R := RH g) h).mono fun v H1 ⟨F1, h1, st1, l1, r1, h⟩ => by
    obtain ⟨b, rfl, h⟩ := h.bl_bind r1
    exact ⟨b, rfl, h.here (.bl _)⟩⟩
/-- and, or -/
theorem rf_andT1 (ha : PT X a (RT g E ta)) : PW X (.BoolOp .And [a] pos) (RT g E (mAndT [ta])) := pw_and1 ha
theorem rf_orT1 (ha : PT X a (RT g E ta)) : PW X (.BoolOp .Or [a] pos) (RT g E (mOrT [ta])) := pw_or1 ha
theorem _root_.L2.PW.weak {X : Cx} {e : Expr} {t t' : TT} (h : PW X e t) (w : ∀ σ H Q, t' σ H Q → t σ H Q) : PW X e t' := ⟨fun wh pins s σ H Q I q => h.run wh pins s σ H Q I (w σ H Q q)⟩
theorem rf_andT {rest : List Expr} {t1 : M Bool} {ts : List (M Bool)} (ha : PT X a (RT g E ta)) (hb : PW X (.BoolOp .And (b :: rest) pos) (RT g E (mAndT (t1 :: ts)))) : PW X (.BoolOp .And (a :: b :: rest) pos) (RT g E (mAndT (ta :: t1 :: ts))) :=
  (pw_and ha hb).weak fun σ H Q ⟨F, st, h⟩ => ⟨F, st, (RFw.bind (R := RB) h).mono fun c H1 ⟨F1, c', st1, l1, r1, h⟩ => by
    cases r1
    cases c
    · exact h.here rfl
    · exact ⟨F1, st1, h⟩⟩
theorem rf_orT {rest : List Expr} {t1 : M Bool} {ts : List (M Bool)} (ha : PT X a (RT g E ta)) (hb : PW X (.BoolOp .Or (b :: rest) pos) (RT g E (mOrT (t1 :: ts)))) : PW X (.BoolOp .Or (a :: b :: rest) pos) (RT g E (mOrT (ta :: t1 :: ts))) :=
  (pw_or ha hb).weak fun σ H Q ⟨F, st, h⟩ => ⟨F, st, (RFw.bind (R := RB) h).mono fun c H1 ⟨F1, c', st1, l1, r1, h⟩ => by
    cases r1
    cases c
    · exact ⟨F1, st1, h⟩
    · exact h.here rfl⟩
theorem rf_andV1 {op : BoolOp} (ha : PE X a (RE g E ma)) : PE X (.BoolOp op [a] pos) (RE g E ma) := pe_one ha
theorem rf_andV {rest : List Expr} {m1 : M Hd} {ms : List (M Hd)} (ha : PE X a (RE g E ma)) (hb : PE X (.BoolOp .And (b :: rest) pos) (RE g E (mAndV (m1 :: ms)))) : PE X (.BoolOp .And (a :: b :: rest) pos) (RE g E (mAndV (ma :: m1 :: ms))) :=
  (pe_and ha hb).weak fun σ H Q ⟨F, st, h⟩ => ⟨F, st, (RFw.bind (R := RH g) h).mono fun v H1 ⟨F1, h1, st1, l1, r1, h⟩ => by
    obtain ⟨c, rfl, h⟩ := h.bl_bind r1
    refine ⟨c, rfl, ?_⟩
    cases c
    · exact h.here (.bl _)
    · exact ⟨F1, st1, h⟩⟩
theorem rf_orV {rest : List Expr} {m1 : M Hd} {ms : List (M Hd)} (ha : PE X a (RE g E ma)) (hb : PE X (.BoolOp .Or (b :: rest) pos) (RE g E (mOrV (m1 :: ms)))) : PE X (.BoolOp .Or (a :: b :: rest) pos) (RE g E (mOrV (ma :: m1 :: ms))) :=
  (pe_or ha hb).weak fun σ H Q ⟨F, st, h⟩ => ⟨F, st, (RFw.bind (R := RH g) h).mono fun v H1 ⟨F1, h1, st1, l1, r1, h⟩ => by
    obtain ⟨c, rfl, h⟩ := h.bl_bind r1
    refine ⟨c, rfl, ?_⟩
    cases c
    · exact ⟨F1, st1, h⟩
    · exact h.here (.bl _)⟩
/-- a if c else b -/
theorem rf_ifE (hc : PT X c (RT g E tc)) (ha : PE X a (RE g E ma)) (hb : PE X b (RE g E mb)) : PE X (.IfExp c a b pos) (RE g E (mIf tc ma mb)) :=
  (pe_ifExp hc ha hb).weak fun σ H Q ⟨F, st, h⟩ => ⟨F, st, (RFw.bind (R := RB) h).mono fun c H1 ⟨F1, c', st1, l1, r1, h⟩ => by
    cases r1
    cases c
    · exact ⟨F1, st1, h⟩
    · exact ⟨F1, st1, h⟩⟩

/-! ### truth -/
theorem tru_of {K : PySem.W.Frag} {ca : CA} {ρ : List Addr} {W : Addr → Prop} {H : Hp} {v : V} {d : D} {k : Bool} (r : RepC K ca ρ (hide W H) H d v) (h : truD d = some k) : TruV K v H k := by
  cases d <;> simp only [truD, reduceCtorEq, Option.some.injEq] at h
  · subst h; cases r.non; exact rfl
  · subst h; cases r.bl; exact rfl
  · subst h; cases r.int; exact rfl
  · split at h
    · rename_i hl
      simp only [Option.some.injEq] at h
      subst h; cases r.str
      exact ⟨by rw [← lim_eq]; exact hl, rfl⟩
    · cases h
  · subst h
    obtain ⟨a, vs, rfl, h, q⟩ := r.tup
    have := q.length
    refine .inr (.inl ⟨vs, h, ?_⟩)
    cases q <;> rfl
  · subst h
    obtain ⟨a, vs, rfl, h, q⟩ := r.lst
    refine .inl ⟨vs, SqL.of h, ?_⟩
    cases q <;> rfl
  · subst h
    obtain ⟨a, vs, rfl, h, q⟩ := r.frl
    refine .inl ⟨vs, h, ?_⟩
    cases q <;> rfl
theorem rf_truth (ha : PE X a (RE g E ma)) (he : ∀ whole, isTrue a X.env whole = (do let v ← whole; standAt a.pos; holding [v] (truthy v))) (hK : X.K = g.K) : PT X a (RT g E (mTV ma)) :=
  (pt_truth ha he).weak fun σ H Q ⟨F, st, h⟩ => ⟨F, st, (RFw.bind (R := RH g) h).mono fun v H1 ⟨F1, h1, st1, l1, r1, h⟩ => by
    obtain ⟨d, rc, w⟩ := h.look_bind r1
    cases e : truD d with
    | none => rw [e] at w; exact w.2.elim
    | some k =>
      rw [e] at w
      exact ⟨k, by rw [hK]; exact tru_of rc e, w.here rfl⟩⟩

/-! ### given away; argument lists; displays -/
theorem Sl_set {l : List Sl} {i j : Nat} {s t : Sl} (h : (l.set i s)[j]? = some t) : (j = i ∧ t = s) ∨ (j ≠ i ∧ l[j]? = some t) := by
  by_cases e : j = i
  · subst e
    by_cases hl : j < l.length
    · rw [List.getElem?_set_self hl] at h
      exact .inl ⟨rfl, (Option.some.inj h).symm⟩
    · rw [List.getElem?_eq_none (by simpa using hl)] at h; cases h
  · rw [List.getElem?_set_ne (Ne.symm e)] at h
    exact .inr ⟨e, h⟩
/-- a slot that alone held a thing lets it be seen -/
theorem FrOk.freeze {K : PySem.W.Frag} {ca : CA} {F : Fm} {st : Stt} {σ : L2.St} {H : Hp} (ok : FrOk K ca F st σ H) {i : Nat} {o : D} (h : st.σ[i]? = some (.own o)) :
    ∃ F', Lk F H F' H ∧ FrOk K ca F' { st with σ := st.σ.set i (.val o) } σ H ∧ ∀ v, σ[i]? = some (some v) → Rep K ca F'.ρ (hide F'.W H) o v := by
  obtain ⟨a, e1, e2, t⟩ := ok.own i o h
  have ow : ∀ j b, (if j = i then none else F.own j) = some b → F.own j = some b := fun j b q => by
    split at q
    · cases q
    · exact q
  have lk : Lk F H { F with own := fun j => if j = i then none else F.own j } H :=
    ⟨⟨rfl, rfl, rfl, List.prefix_refl _, fun a u h _ => hide_of (fun w => (hide_some.mp h).1 (by
      rcases w with w | w | ⟨j, w⟩ | w
      · exact .inl w
      · exact .inr (.inl w)
      · exact .inr (.inr (.inl ⟨j, ow j a w⟩))
      · exact .inr (.inr (.inr w)))) (hide_some.mp h).2⟩, fun _ _ h => h⟩
  have nw : ¬ Fm.W { F with own := fun j => if j = i then none else F.own j } a := by
    intro w
    obtain ⟨f1, f2, f3⟩ := ok.ownF i a e1
    rcases w with w | w | ⟨j, w⟩ | ⟨j, w⟩
    · exact (ok.bF a w).1.ne f1
    · exact f2 w
    · have w : (if j = i then none else F.own j) = some a := w
      split at w
      · cases w
      · rename_i hj
        exact hj (ok.ownI j i a w e1)
    · exact ok.ownT i j a e1 w
  have rp : Rep K ca F.ρ (hide (Fm.W { F with own := fun j => if j = i then none else F.own j }) H) o (.ref a) := by
    cases o <;> first | exact t.elim | skip
    · obtain ⟨vs, q, r⟩ := t; exact .lst (hide_of nw q) (r.mono lk.sub (List.prefix_refl _))
    · obtain ⟨vs, q, r⟩ := t; exact .dct (.inl (hide_of nw q)) (r.mono lk.sub (List.prefix_refl _))
    · obtain ⟨dx, vs, q, r⟩ := t; exact .ins (hide_of nw q) (r.mono lk.sub (List.prefix_refl _))
  refine ⟨_, lk, ⟨by simpa using ok.len, fun j d q => ?_, fun j d q => ?_, fun j b q => let ⟨x, h1, h2⟩ := ok.tm j b q; ⟨x, h1, h2.mono lk.sub (List.prefix_refl _) fun _ h => h⟩,
    fun j b q => let ⟨x, h1, h2⟩ := ok.box j b q; ⟨x, h1, h2.mono lk.sub (List.prefix_refl _) fun _ h => h⟩, ok.boxn, ok.nd, fun j k b q1 q2 => ?_, ok.tmI, fun j k b q1 q2 => ?_, fun j b q => ?_, ok.tmF, ok.bF, ok.mono, ok.pre0, ok.new0, ok.dom, ok.tab, fun x p e q => by
      rcases Sl_set (j := 0) q with ⟨_, z⟩ | ⟨hj, z⟩
      · cases z
      · show (if 0 = i then none else F.own 0) = some x
        rw [if_neg hj]; exact ok.slf x p e z⟩, fun v q => ?_⟩
  · have q : (st.σ.set i (.val o))[j]? = some (.val d) := q
    rcases Sl_set q with ⟨e, q⟩ | ⟨hj, q⟩
    · cases q
      exact ⟨_, by rw [e]; exact e2, rp⟩
    · obtain ⟨v, h1, h2⟩ := ok.val j d q
      exact ⟨v, h1, h2.mono lk.sub (List.prefix_refl _)⟩
  · have q : (st.σ.set i (.val o))[j]? = some (.own d) := q
    rcases Sl_set q with ⟨e, q⟩ | ⟨hj, q⟩
    · cases q
    · obtain ⟨b, h1, h2, h3⟩ := ok.own j d q
      exact ⟨b, by show (if j = i then none else F.own j) = some b; rw [if_neg hj]; exact h1, h2, h3.mono lk.sub (List.prefix_refl _) fun _ h => h⟩
  · exact ok.ownI j k b (ow j b q1) (ow k b q2)
  · exact ok.ownT j k b (ow j b q1) q2
  · exact ok.ownF j b (ow j b q)
  · rw [e2] at q; cases q
    exact rp
theorem RFw.toD_bind {g : G} {α' β' : Type} {R' : Rl α' β'} {E : L2.WX} {F : Fm} {st : Stt} {σ : L2.St} {H : Hp} {Q : β' → Hp → Prop} {blk : Bool} {h : Hd} {v : V} {k : D → M α'} (w : RFw g R' E (bnd (toD blk h) k) F st σ H Q) (r : RepH g.K g.ca F σ H h v) :
    ∃ F' st' d, Lk F H F' H ∧ Rep g.K g.ca F'.ρ (hide F'.W H) d v ∧ RFw g R' E (k d) F' st' σ H Q := by
  obtain ⟨ok, w⟩ := w
  cases h with
  | d x => exact ⟨F, st, x, Lk.refl, r, ok, w⟩
  | own i =>
    unfold bnd toD at w
    cases q : st.σ[i]? with
    | none => simp only [q] at w; exact w.elim
    | some s =>
      cases s with
      | no => simp only [q] at w; exact w.elim
      | val d =>
        simp only [q] at w
        obtain ⟨v', e, r'⟩ := ok.val i d q
        have r : σ[i]? = some (some v) := r
        rw [e] at r; cases r
        exact ⟨F, st, d, Lk.refl, r', ok, w⟩
      | own o =>
        simp only [q] at w
        cases blk with
        | true => exact w.elim
        | false =>
          obtain ⟨F', l, ok', r'⟩ := ok.freeze q
          exact ⟨F', _, o, l, r' v r, ok', Post.lk l w⟩
theorem rf_args_nil {blk : Bool} : PA X [] (RA g E (mDs blk [])) := pa_nil.weak fun σ H Q ⟨F, st, h⟩ => h.here (R := RL g) .nil
theorem rf_args_cons {blk : Bool} {es : List Expr} {ms : List (M Hd)} (ha : PE X e (RE g E ma)) (hr : PA X es (RA g E (mDs blk ms))) (hs : starEach (e :: es) X.env = (false, eval e X.env) :: starEach es X.env) : PA X (e :: es) (RA g E (mDs blk (ma :: ms))) :=
  (pa_cons ha hr hs).weak fun σ H Q ⟨F, st, h⟩ => by
    have h : RFw g (RL g) E (bnd (bnd ma (toD blk)) fun d => bnd (mDs blk ms) fun ds => ret (d :: ds)) F st σ H Q := h
    have e2 : (bnd (bnd ma (toD blk)) fun d => bnd (mDs blk ms) fun ds => ret (d :: ds)) = bnd ma fun h => bnd (toD blk h) fun d => bnd (mDs blk ms) fun ds => ret (d :: ds) := by
      funext s; unfold bnd; cases ma s <;> rfl
    rw [e2] at h
    refine ⟨F, st, (RFw.bind (R := RH g) h).mono fun v H1 ⟨F1, h1, st1, l1, r1, h⟩ => ?_⟩
    obtain ⟨F2, st2, d, l2, r2, h⟩ := h.toD_bind r1
    refine ⟨F2, st2, (RFw.bind (R := RL g) h).mono fun vs H3 ⟨F3, ds, st3, l3, r3, h⟩ => ?_⟩
    exact h.here (.cons (r2.lk l3) r3)
theorem rf_tup {es : List Expr} {m : M (List D)} {x1 : Nat} (h : PA X es (RA g E m)) : PE X (.Tuple es x1 pos) (RE g E (mTup m)) := (pe_tup h).weak fun σ H Q ⟨F, st, h⟩ =>
  ⟨F, st, (RFw.bind (R := RL g) h).mono fun vs H1 ⟨F1, ds, st1, l1, r1, h⟩ => by
    by_cases hl : ds.length ≤ lim
    · rw [if_pos hl] at h
      refine ⟨by rw [← lim_eq, ← r1.length]; exact hl, fun p hp => ?_⟩
      have l := h.1.lk_upd (o := .tup vs) hp
      exact h.ret_end l (h.1.upd hp) (.tup (SqT.of (h.1.seen hp)) (r1.lk l))
    · rw [if_neg hl] at h
      exact h.2.elim⟩
theorem rf_lst {es : List Expr} {m : M (List D)} (h : PA X es (RA g E m)) : PE X (.List es pos) (RE g E (mLst m)) := (pe_lst h).weak fun σ H Q ⟨F, st, h⟩ =>
  ⟨F, st, (RFw.bind (R := RL g) h).mono fun vs H1 ⟨F1, ds, st1, l1, r1, h⟩ => by
    by_cases hl : ds.length ≤ lim
    · rw [if_pos hl] at h
      refine ⟨by rw [← lim_eq, ← r1.length]; exact hl, fun p hp => ?_⟩
      have l := h.1.lk_upd (o := .lst vs) hp
      exact h.ret_end l (h.1.upd hp) (.lst (h.1.seen hp) (r1.lk l))
    · rw [if_neg hl] at h
      exact h.2.elim⟩
end
end Rf

set_option Elab.async false
set_option linter.all false
set_option maxRecDepth 100000
/-! Rf, part H: calls. -/
namespace Rf
open PySem L2

def WBox (B : Addr → Prop) (ρ : List Addr) (a : Addr) : Prop := B a ∨ a ∈ ρ
/-- the boxes as a callee finds them; B: what its callers alone hold -/
structure BoxOk (g : G) (B : Addr → Prop) (ρ : List Addr) (hs : List D) (H : Hp) : Prop where
  box : ∀ (i : Nat) (a : Addr), ρ[i]? = some a → ∃ o, hs[i]? = some o ∧ Top g.K g.ca ρ (hide (WBox B ρ) H) H a o
  boxn : ρ.length = hs.length
  nd : ρ.Nodup
  bF : ∀ a, B a → Mu (H a) ∧ a ∉ ρ
  tab : LamX.Tabs g.ca.T H
structure CLk (ρ : List Addr) (H : Hp) (ρ' : List Addr) (H' : Hp) : Prop where
  pre : ρ <+: ρ'
  new : ∀ a, a ∈ ρ' → a ∉ ρ → H a = none
  step : ∀ a o, H a = some o → a ∉ ρ → NT o → H' a = some o
  dom : ∀ a, H a ≠ none → H' a ≠ none
def PostC (g : G) (r : OutC) (B : Addr → Prop) (ρ : List Addr) (H : Hp) (Q : VK) (E : XK) : Prop := match r with
  | .ok d hs' => ∀ ρ' v H', CLk ρ H ρ' H' → BoxOk g B ρ' hs' H' → Rep g.K g.ca ρ' (hide (WBox B ρ') H') d v → Q v H'
  | .exc c fs hs' => ∀ ρ' H' d, CLk ρ H ρ' H' → BoxOk g B ρ' hs' H' → (∃ vs, hide (WBox B ρ') H' d = some (.xd vs) ∧ RepF g.K g.ca ρ' (hide (WBox B ρ') H') fs vs) → E (.ref (g.ca.cl c)) (some d) H'
  | .bad => False
/-- the promise of a def: it does as the evaluator says -/
def spF (g : G) (n : Nat) (run : List D → List D → OutC) : Sp := fun vs H Q E => vs.length = n ∧ ∃ B ρ hs ds, BoxOk g B ρ hs H ∧ Reps g.K g.ca ρ (hide (WBox B ρ) H) ds vs ∧ PostC g (run ds hs) B ρ H Q E

def Fm.Bc (F : Fm) (a : Addr) : Prop := F.B a ∨ (∃ i, F.own i = some a) ∨ ∃ j, F.tm j = some a
theorem Fm.W_eq (F : Fm) : F.W = WBox F.Bc F.ρ := by
  funext a
  apply propext
  unfold Fm.W WBox Fm.Bc
  constructor
  · rintro (h | h | h | h)
    · exact .inl (.inl h)
    · exact .inr h
    · exact .inl (.inr (.inl h))
    · exact .inl (.inr (.inr h))
  · rintro ((h | h | h) | h)
    · exact .inl h
    · exact .inr (.inr (.inl h))
    · exact .inr (.inr (.inr h))
    · exact .inr (.inl h)
section
variable {g : G} {F : Fm} {st : Stt} {σ : L2.St} {H H' : Hp}
theorem FrOk.boxOk (ok : FrOk g.K g.ca F st σ H) : BoxOk g F.Bc F.ρ st.hs H := by
  refine ⟨fun i a h => ?_, ok.boxn, ok.nd, fun a h => ?_, ok.tab⟩
  · rw [← F.W_eq]; exact ok.box i a h
  · have w : F.W a := by rw [F.W_eq]; exact .inl h
    refine ⟨ok.wmu w, ?_⟩
    rcases h with h | ⟨i, h⟩ | ⟨j, h⟩
    · exact (ok.bF a h).2
    · exact (ok.ownF i a h).2.1
    · exact (ok.tmF j a h).2
theorem FrOk.back (ok : FrOk g.K g.ca F st σ H) {ρ' : List Addr} {hs' : List D} (c : CLk F.ρ H ρ' H') (b : BoxOk g F.Bc ρ' hs' H') :
    Lk F H { F with ρ := ρ' } H' ∧ FrOk g.K g.ca { F with ρ := ρ' } { st with hs := hs' } σ H' := by
  have l : Lk F H { F with ρ := ρ' } H' := ⟨⟨rfl, rfl, rfl, c.pre, fun a u h nt => by
    obtain ⟨n, h⟩ := hide_some.mp h
    have nr : a ∉ F.ρ := fun z => n (.inr (.inl z))
    refine hide_of (fun w => ?_) (c.step a u h nr nt)
    rcases w with w | w | w
    · exact n (.inl w)
    · rw [c.new a w nr] at h; cases h
    · exact n (.inr (.inr w))⟩, fun _ _ h => h⟩
  have e : WBox F.Bc ρ' = Fm.W { F with ρ := ρ' } := (Fm.W_eq { F with ρ := ρ' }).symm
  have sub : ∀ a, a ∈ F.ρ → a ∈ ρ' := fun a h => by obtain ⟨t, rfl⟩ := c.pre; exact List.mem_append_left _ h
  refine ⟨l, ok.len, fun i d h => let ⟨v, e1, r⟩ := ok.val i d h; ⟨v, e1, r.lk l⟩, fun i o h => ?_, fun j a h => ?_, fun i a h => by rw [← e]; exact b.box i a h, b.boxn, b.nd, ok.ownI, ok.tmI, ok.ownT,
    fun i a h => ⟨(ok.ownF i a h).1, (b.bF a (.inr (.inl ⟨i, h⟩))).2, (b.bF a (.inr (.inl ⟨i, h⟩))).1⟩, fun j a h => ⟨(ok.tmF j a h).1, (b.bF a (.inr (.inr ⟨j, h⟩))).2⟩, fun a h => ⟨(ok.bF a h).1, (b.bF a (.inl h)).2⟩,
    fun a o h n q => c.step a o (ok.mono a o h (fun z => n (sub a z)) q) (fun z => n (sub a z)) q, ok.pre0.trans c.pre, fun a h n => ?_, fun a h => c.dom a (ok.dom a h), b.tab, ok.slf⟩
  · obtain ⟨a, e1, e2, t⟩ := ok.own i o h
    exact ⟨a, e1, e2, t.mono l.sub c.pre fun u q => c.step a u q (ok.ownF i a e1).2.1 (t.ntu q)⟩
  · obtain ⟨o, e1, t⟩ := ok.tm j a h
    exact ⟨o, e1, t.mono l.sub c.pre fun u q => c.step a u q (ok.tmF j a h).2 (t.ntu q)⟩
  · by_cases z : a ∈ F.ρ
    · exact ok.new0 a z n
    · have h0 := c.new a h z
      show F.He a = none
      cases q : F.He a with
      | none => rfl
      | some o => exact absurd h0 (ok.dom a (by rw [q]; simp))
/-- a call's reading gives the callee's promise -/
theorem call_sp {E : L2.WX} {n : Nat} {run : List D → List D → OutC} {ds : List D} {vs : List V} {Q : VK} (h : RFw g (RH g) E (fun s => if ds.length = n then outC (run ds s.hs) s else .bad) F st σ H Q) (r : Reps g.K g.ca F.ρ (hide F.W H) ds vs) :
    spF g n run vs H Q (WE E σ) := by
  obtain ⟨ok, h⟩ := h
  have h : Post g (RH g) E (if ds.length = n then outC (run ds st.hs) st else .bad) F σ H Q := h
  by_cases hn : ds.length = n
  · rw [if_pos hn] at h
    refine ⟨by rw [← r.length]; exact hn, F.Bc, F.ρ, st.hs, ds, ok.boxOk, by rw [← F.W_eq]; exact r, ?_⟩
    unfold outC at h
    cases q : run ds st.hs with
    | ok d hs' =>
      rw [q] at h
      intro ρ' v H' c b rv
      obtain ⟨l, ok'⟩ := ok.back c b
      refine h _ v H' l ok' ?_
      show Rep g.K g.ca ρ' (hide (Fm.W { F with ρ := ρ' }) H') d v
      rw [Fm.W_eq]
      exact rv
    | exc c fs hs' =>
      rw [q] at h
      intro ρ' H' d c b ⟨vs, e1, e2⟩
      obtain ⟨l, ok'⟩ := ok.back c b
      refine h _ H' d l ok' ?_
      show ∃ vs, hide (Fm.W { F with ρ := ρ' }) H' d = some (.xd vs) ∧ RepF g.K g.ca ρ' (hide (Fm.W { F with ρ := ρ' }) H') fs vs
      rw [Fm.W_eq]
      exact ⟨vs, e1, e2⟩
    | bad => rw [q] at h; exact h.elim
  · rw [if_neg hn] at h
    exact h.elim
end
section
variable {g : G} {X : Cx} {E : L2.WX} {e : Expr} {es : List Expr} {m : M (List D)} {x : Str} {p pos : Pos} {k n i : Nat} {f : Addr} {fd : FuncData} {ps : List Str} {oc : Oc}
theorem rf_call (F : FnOk X.prog X.w X.K X.mg X.base (L2.CX X.prog X.w) k f fd ps (spF g n (oc i))) (tk : Takes X E) (hr : Room k X.A) (hg : Gl X x) (hm : X.mg x = some (.ref f)) (hk : PySem.W.keepIn X.K (.ref f) = true) (hb : Binds X.K fd ps [])
    (ha : PA X (e :: es) (RA g E m)) (hdb : (x == ("__debug__" : Str)) = false) (he : starEach (e :: es) X.env = (false, eval e X.env) :: starEach es X.env) (hpl : (backTo pos (starEach es X.env)).any (·.1) = false) :
    PE X (.Call (.Name x p) (e :: es) [] pos) (RE g E (mCall oc i n m)) := (pe_callS F hr hg hm hk hb (fun σ => passAt tk σ) ha hdb he hpl).weak fun σ H Q ⟨F, st, h⟩ =>
  ⟨F, st, (RFw.bind (R := RL g) h).mono fun vs H1 ⟨F1, ds, st1, l1, r1, h⟩ => call_sp h r1⟩
end
end Rf

set_option Elab.async false
set_option linter.all false
set_option maxRecDepth 100000
/-! Rf, part I: statements, bodies. -/
namespace Rf
open PySem L2 PyProof.Rows

def PostS (g : G) (E : L2.WX) (r : OutS) (F : Fm) (H : Hp) (D : Ends) : Prop := match r with
  | .nx s => ∀ F' σ' H', LkS F H F' H' → FrOk g.K g.ca F' s σ' H' → D.nx σ' H'
  | .rt d s => ∀ F' σ' v H', LkS F H F' H' → FrOk g.K g.ca F' s σ' H' → Rep g.K g.ca F'.ρ (hide F'.W H') d v → D.rt v H'
  | .bk s => ∀ F' σ' H', LkS F H F' H' → FrOk g.K g.ca F' s σ' H' → D.bk σ' H'
  | .ct s => ∀ F' σ' H', LkS F H F' H' → FrOk g.K g.ca F' s σ' H' → D.ct σ' H'
  | .exc c fs s => ∀ F' σ' H' d, LkS F H F' H' → FrOk g.K g.ca F' s σ' H' → ExD g F' H' d fs → E (.ref (g.ca.cl c)) (some d) σ' H'
  | .bad => False
def RSw (g : G) (E : L2.WX) (m : MS) (F : Fm) (st : Stt) (σ : L2.St) (H : Hp) (D : Ends) : Prop := FrOk g.K g.ca F st σ H ∧ PostS g E (m st) F H D
def RS (g : G) (E : L2.WX) (m : MS) : TS := fun D σ H => ∃ F st, RSw g E m F st σ H D

section
variable {g : G} {E : L2.WX} {F F1 : Fm} {st st1 : Stt} {σ σ1 : L2.St} {H H1 : Hp} {D D' : Ends} {m m' : MS}
theorem PostS.lk {r : OutS} (l : LkS F H F1 H1) (h : PostS g E r F H D) : PostS g E r F1 H1 D := by
  cases r with
  | nx s => exact fun F' σ' H' l' o => h F' σ' H' (l.trans l') o
  | rt d s => exact fun F' σ' v H' l' o q => h F' σ' v H' (l.trans l') o q
  | bk s => exact fun F' σ' H' l' o => h F' σ' H' (l.trans l') o
  | ct s => exact fun F' σ' H' l' o => h F' σ' H' (l.trans l') o
  | exc c fs s => exact fun F' σ' H' d l' o q => h F' σ' H' d (l.trans l') o q
  | bad => exact h
/-- a piece first -/
theorem RSw.m_bind {α β : Type} {R : Rl α β} {m : M α} {k : α → MS} (h : RSw g E (sM m k) F st σ H D) :
    RFw g R E m F st σ H fun b H1 => ∃ F1 a st1, Lk F H F1 H1 ∧ R F1 σ H1 a b ∧ RSw g E (k a) F1 st1 σ H1 D := by
  obtain ⟨ok, h⟩ := h
  refine ⟨ok, ?_⟩
  unfold sM at h
  cases e : m st with
  | ok a st1 =>
    rw [e] at h
    exact fun F1 b H1 l o r => ⟨F1, a, st1, l, r, o, h.lk l.s⟩
  | exc c fs st1 =>
    rw [e] at h
    exact fun F1 H1 d l o r => h F1 σ H1 d l.s o r
  | bad =>
    rw [e] at h
    exact h
theorem RSw.nx_end {s : Stt} (h : PostS g E (.nx s) F H D) (l : LkS F H F1 H1) (o : FrOk g.K g.ca F1 s σ H1) : D.nx σ H1 := h F1 σ H1 l o
end

section
variable {g : G} {X : Cx} {E : L2.WX} {e : Expr} {ma : M Hd} {tc : M Bool} {pos : Pos} {s1 : Stmt} {ss p q : List Stmt} {m m' : MS}
theorem rs_nil : PSs X [] (RS g E sPass) := pss_nil.weak fun D σ H ⟨F, st, ok, h⟩ => h F σ H LkS.refl ok
theorem rs_cons (h1 : PS X s1 (RS g E m)) (h2 : PSs X ss (RS g E m')) : PSs X (s1 :: ss) (RS g E (sSeq m m')) := (pss_cons h1 h2).weak fun D σ H ⟨F, st, ok, h⟩ => by
  refine ⟨F, st, ok, ?_⟩
  unfold sSeq at h
  cases e : m st with
  | nx s' =>
    rw [e] at h
    exact fun F' σ' H' l o => ⟨F', s', o, h.lk l⟩
  | rt d s' => rw [e] at h; exact h
  | bk s' => rw [e] at h; exact h
  | ct s' => rw [e] at h; exact h
  | exc c fs s' => rw [e] at h; exact h
  | bad => rw [e] at h; exact h
theorem rs_one (h1 : PS X s1 (RS g E m)) : PSs X [s1] (RS g E m) := pss_one h1
theorem rs_pass : PS X (.Pass pos) (RS g E sPass) := ps_pass.weak fun D σ H ⟨F, st, ok, h⟩ => h F σ H LkS.refl ok
theorem rs_brk : PS X (.Break pos) (RS g E sBrk) := ps_break.weak fun D σ H ⟨F, st, ok, h⟩ => h F σ H LkS.refl ok
theorem rs_cnt : PS X (.Continue pos) (RS g E sCnt) := ps_continue.weak fun D σ H ⟨F, st, ok, h⟩ => h F σ H LkS.refl ok
theorem rs_if {c : Expr} (hc : PT X c (RT g E tc)) (ha : PSs X p (RS g E m)) (hb : PSs X q (RS g E m')) : PS X (.If c p q pos) (RS g E (sIf tc m m')) := (ps_if hc ha hb).weak fun D σ H ⟨F, st, h⟩ =>
  ⟨F, st, (RSw.m_bind (R := RB) h).mono fun b H1 ⟨F1, b', st1, l, r, h⟩ => by
    cases r
    cases b
    · exact ⟨F1, st1, h⟩
    · exact ⟨F1, st1, h⟩⟩
theorem toD_ok {F : Fm} {st : Stt} {σ : L2.St} {H : Hp} {h : Hd} {v : V} (ok : FrOk g.K g.ca F st σ H) (r : RepH g.K g.ca F σ H h v) {d : D} {s' : Stt} (e : toD false h st = .ok d s') :
    ∃ F', Lk F H F' H ∧ FrOk g.K g.ca F' s' σ H ∧ Rep g.K g.ca F'.ρ (hide F'.W H) d v := by
  have w : RFw g (RD g) (fun _ _ _ _ => False) (bnd (toD false h) ret) F st σ H (fun _ _ => True) := ⟨ok, by unfold bnd; rw [e]; exact fun _ _ _ _ _ _ => trivial⟩
  obtain ⟨F', st', d', l, rp, w⟩ := w.toD_bind r
  cases h with
  | d x =>
    simp only [toD, Out.ok.injEq] at e
    obtain ⟨rfl, rfl⟩ := e
    exact ⟨F, Lk.refl, ok, r⟩
  | own i =>
    simp only [toD] at e
    cases q : st.σ[i]? with
    | none => simp only [q, reduceCtorEq] at e
    | some s =>
      cases s with
      | no => simp only [q, reduceCtorEq] at e
      | val x =>
        simp only [q, Out.ok.injEq] at e
        obtain ⟨rfl, rfl⟩ := e
        obtain ⟨v', e1, r'⟩ := ok.val i x q
        have r : σ[i]? = some (some v) := r
        rw [e1] at r; cases r
        exact ⟨F, Lk.refl, ok, r'⟩
      | own o =>
        simp only [q, Bool.false_eq_true, if_false, Out.ok.injEq] at e
        obtain ⟨rfl, rfl⟩ := e
        obtain ⟨F', l, ok', r'⟩ := ok.freeze q
        exact ⟨F', l, ok', r' v r⟩
theorem rs_ret (he : PE X e (RE g E ma)) : PS X (.Return (some e) pos) (RS g E (sRet ma)) := (ps_ret he).weak fun D σ H ⟨F, st, h⟩ =>
  ⟨F, st, (RSw.m_bind (R := RH g) h).mono fun v H1 ⟨F1, h1, st1, l, r, ok, h⟩ => by
    cases q : toD false h1 st1 with
    | ok d s' =>
      simp only [q] at h
      obtain ⟨F2, l2, ok2, r2⟩ := toD_ok ok r q
      exact h F2 σ v H1 l2.s ok2 r2
    | exc c fs s' => cases h1 <;> simp only [toD, reduceCtorEq] at q <;> (repeat' split at q) <;> simp at q
    | bad => simp only [q] at h; exact h.elim⟩
theorem rs_retN : PS X (.Return none pos) (RS g E sRetN) := ps_retN.weak fun D σ H ⟨F, st, ok, h⟩ => h F σ .non H LkS.refl ok .non
theorem rs_drop (he : PE X e (RE g E ma)) (hs : swapsWith e none pos.line X.env = pure false) : PS X (.Expr e pos) (RS g E (sDrop ma)) := (ps_expr he hs).weak fun D σ H ⟨F, st, h⟩ =>
  ⟨F, st, (RSw.m_bind (R := RH g) h).mono fun v H1 ⟨F1, h1, st1, l, r, ok, h⟩ => h F1 σ H1 LkS.refl ok⟩
theorem rs_doc {x j pos pos'} : PS X (.Expr (.Constant (.str x) j pos) pos') (RS g E sPass) := ps_doc.weak fun D σ H ⟨F, st, ok, h⟩ => h F σ H LkS.refl ok

/-! ### a slot is set -/
theorem FrOk.setv {K : PySem.W.Frag} {ca : CA} {F : Fm} {st : Stt} {σ : L2.St} {H : Hp} (ok : FrOk K ca F st σ H) (i : Nat) {d : D} {v : V} (r : Rep K ca F.ρ (hide F.W H) d v) : FrOk K ca F (setS i d st) (σ.set i (some v)) H := by
  have olt : ∀ j (s : Sl), (st.σ.set i (.val d))[j]? = some s → j < σ.length := fun j s q => by
    have := (List.getElem?_eq_some_iff.mp q).1
    rw [List.length_set] at this
    rw [← ok.len]; exact this
  refine ⟨by simpa [setS] using ok.len, fun j x q => ?_, fun j x q => ?_, ok.tm, ok.box, ok.boxn, ok.nd, ok.ownI, ok.tmI, ok.ownT, ok.ownF, ok.tmF, ok.bF, ok.mono, ok.pre0, ok.new0, ok.dom, ok.tab, fun x o e q => (Sl_set (j := 0) q).elim (fun z => nomatch z.2) fun z => ok.slf x o e z.2⟩
  · have q : (st.σ.set i (.val d))[j]? = some (.val x) := q
    have hj := olt j _ q
    rcases Sl_set q with ⟨e, q⟩ | ⟨hj', q⟩
    · cases q
      exact ⟨v, by rw [e] at hj ⊢; rw [List.getElem?_set_self hj], r⟩
    · obtain ⟨w, h1, h2⟩ := ok.val j x q
      exact ⟨w, by rw [List.getElem?_set_ne (Ne.symm hj')]; exact h1, h2⟩
  · have q : (st.σ.set i (.val d))[j]? = some (.own x) := q
    rcases Sl_set q with ⟨e, q⟩ | ⟨hj', q⟩
    · cases q
    · obtain ⟨b, h1, h2, h3⟩ := ok.own j x q
      exact ⟨b, h1, by rw [List.getElem?_set_ne (Ne.symm hj')]; exact h2, h3⟩
theorem rs_set {i : Nat} {x : Str} {pos' : Pos} (hN : X.N.Nodup) (hi : X.N[i]? = some x) (hx : Loc X.env.scope x) (he : PE X e (RE g E ma)) (hs : swapsWith e (some (.Name x pos')) pos.line X.env = pure false) (hf : X.fn x = true ∨ X.env.scope.names.lookup x = some .local) :
    PS X (.Assign [.Name x pos'] e pos) (RS g E (sSet i ma)) := (ps_set hN hi hx he hs hf).weak fun D σ H ⟨F, st, h⟩ =>
  ⟨F, st, (RSw.m_bind (R := RH g) h).mono fun v H1 ⟨F1, h1, st1, l, r, ok, h⟩ => by
    cases q : toD false h1 st1 with
    | ok d s' =>
      simp only [q] at h
      obtain ⟨F2, l2, ok2, r2⟩ := toD_ok ok r q
      exact h F2 _ H1 l2.s (ok2.setv i r2)
    | exc c fs s' => cases h1 <;> simp only [toD, reduceCtorEq] at q <;> (repeat' split at q) <;> simp at q
    | bad => simp only [q] at h; exact h.elim⟩
end

/-! ### a def's body -/
theorem start_get {vs : List V} {N : List Str} {i : Nat} {v : V} (h : vs[i]? = some v) : (L2.start N vs)[i]? = some (some v) := by
  unfold L2.start
  have hl : i < vs.length := (List.getElem?_eq_some_iff.mp h).1
  rw [List.getElem?_append_left (by simpa using hl), List.getElem?_map, h]; rfl
theorem startS_get {ds hs : List D} {N n i : Nat} {s : Sl} (h : (startS N n ds hs).σ[i]? = some s) : (∃ d, s = .val d ∧ ds[i]? = some d) ∨ s = .no := by
  have h : (ds.map Sl.val ++ List.replicate (N - n) Sl.no)[i]? = some s := h
  by_cases hl : i < ds.length
  · rw [List.getElem?_append_left (by simpa using hl), List.getElem?_map] at h
    rw [List.getElem?_eq_getElem hl] at h
    exact .inl ⟨ds[i], (Option.some.inj h).symm, List.getElem?_eq_getElem hl⟩
  · rw [List.getElem?_append_right (by simpa using hl), List.getElem?_replicate] at h
    split at h
    · exact .inr (Option.some.inj h).symm
    · cases h
theorem body_sp {g : G} {N : List Str} {n : Nat} {m : MS} {vs : List V} {H : Hp} {Q : VK} {E : XK} (hN : n ≤ N.length) (h : spF g n (runFn N.length n m) vs H Q E) :
    RS g (fun cls d _ H' => E cls d H') m { nx := fun _ H' => Q .non H', rt := Q } (L2.start N vs) H := by
  obtain ⟨hl, B, ρ, hs, ds, b, r, h⟩ := h
  have hd := r.length
  have We : ∀ F : Fm, F.B = B → F.ρ = ρ → (∀ i, F.own i = none) → (∀ j, F.tm j = none) → F.W = WBox B ρ := fun F h1 h2 h3 h4 => by
    funext a; apply propext
    unfold Fm.W WBox
    rw [h1, h2]
    constructor
    · rintro (h | h | ⟨i, h⟩ | ⟨i, h⟩)
      · exact .inl h
      · exact .inr h
      · rw [h3] at h; cases h
      · rw [h4] at h; cases h
    · rintro (h | h)
      · exact .inl h
      · exact .inr (.inl h)
  let F : Fm := ⟨ρ, ρ, fun _ => none, fun _ => none, B, H, none⟩
  have w := We F rfl rfl (fun _ => rfl) (fun _ => rfl)
  refine ⟨F, startS N.length n ds hs, ⟨?_, fun i d q => ?_, fun i o q => ?_, fun j a q => (by cases q), fun i a q => ?_, b.boxn, b.nd, fun i j a q _ => (by cases q), fun i j a q _ => (by cases q), fun i j a q => (by cases q), fun i a q => (by cases q), fun i a q => (by cases q), b.bF, fun a o q _ _ => q, List.prefix_refl _, fun a h n => absurd h n, fun a h => h, b.tab, fun x o q => (by cases q)⟩, ?_⟩
  · show (ds.map Sl.val ++ List.replicate (N.length - n) Sl.no).length = (vs.map some ++ List.replicate (N.length - vs.length) none).length
    simp only [List.length_append, List.length_map, List.length_replicate]
    omega
  · rcases startS_get q with ⟨d', e, hd'⟩ | e
    · cases e
      obtain ⟨v, e1, e2⟩ := r.get hd'
      exact ⟨v, start_get e1, by rw [w]; exact e2⟩
    · cases e
  · rcases startS_get q with ⟨d', e, hd'⟩ | e <;> cases e
  · rw [w]; exact b.box i a q
  · unfold runFn at h
    have fin : ∀ {F' : Fm} {s : Stt} {σ' : L2.St} {H' : Hp}, LkS F H F' H' → FrOk g.K g.ca F' s σ' H' → CLk ρ H F'.ρ H' ∧ BoxOk g B F'.ρ s.hs H' ∧ Sub (hide F'.W H') (hide (WBox B F'.ρ) H') := fun {F' s σ' H'} l ok => by
      have hB : F'.B = B := l.B
      have hH : F'.He = H := l.He
      have h0 : F'.ρ0 = ρ := congrArg Prod.fst l.r0
      have pre : ρ <+: F'.ρ := l.pre
      have sub : Sub (hide F'.W H') (hide (WBox B F'.ρ) H') := fun a u q _ => by
        obtain ⟨q1, q2⟩ := hide_some.mp q
        refine hide_of (fun z => q1 ?_) q2
        rcases z with z | z
        · exact .inl (by rw [hB]; exact z)
        · exact .inr (.inl z)
      refine ⟨⟨pre, fun a h1 h2 => by rw [← hH]; exact ok.new0 a h1 (by rw [h0]; exact h2), fun a o h1 h2 nt => ?_, fun a h1 => ok.dom a (by rw [hH]; exact h1)⟩, ⟨fun i a q => ?_, ok.boxn, ok.nd, fun a h => ?_, ok.tab⟩, sub⟩
      · refine ok.mono a o (by rw [hH]; exact h1) (fun z => ?_) nt
        have := ok.new0 a z (by rw [h0]; exact h2)
        rw [hH, h1] at this; cases this
      · obtain ⟨o, e1, t⟩ := ok.box i a q
        exact ⟨o, e1, t.mono sub (List.prefix_refl _) fun _ h => h⟩
      · obtain ⟨h1, h2⟩ := ok.bF a (by rw [hB]; exact h)
        exact ⟨ok.wmu (.inl (by rw [hB]; exact h)), h2⟩
    cases e : m (startS N.length n ds hs) with
    | nx s =>
      rw [e] at h
      exact fun F' σ' H' l ok => let ⟨c, b', sub⟩ := fin l ok; h F'.ρ .non H' c b' .non
    | rt d s =>
      rw [e] at h
      exact fun F' σ' v H' l ok rv => let ⟨c, b', sub⟩ := fin l ok; h F'.ρ v H' c b' (rv.mono sub (List.prefix_refl _))
    | bk s => rw [e] at h; exact h.elim
    | ct s => rw [e] at h; exact h.elim
    | exc c fs s =>
      rw [e] at h
      exact fun F' σ' H' d l ok ⟨vs, e1, e2⟩ => let ⟨c, b', sub⟩ := fin l ok; h F'.ρ H' d c b' ⟨vs, sub.b.xd e1, e2.mono sub (List.prefix_refl _)⟩
    | bad => rw [e] at h; exact h.elim
/-- a def keeps its promise -/
theorem fn_rf {g : G} {P : Program} {w : World} {mg : Str → Option Value} {base : Heap} {x qual : Str} {st : Stmt} {f : Addr} {fd : FuncData} {N ps : List Str} {k : Nat} {m : MS} (F : Fun g.K x qual st f fd) (S : FnScope N ps (defScope st))
    (hbody : ∀ (cdv : Value) (A : Around) (outer : List Env) (s : Shared) (H : Hp) (E : XK), Room k (A.deeper (envOfC qual (defScope st) s.heap.objs.size f cdv)) →
      PSs (cxOf (L2.CX P w) P w g.K mg base N qual (defScope st) f cdv A outer s H E) (defBody st) (RS g (fun cls d _ H' => E cls d H') m)) :
    FnOk P w g.K mg base (L2.CX P w) (k + 1) f fd ps (spF g ps.length (runFn N.length ps.length m)) := by
  have hN : ps.length ≤ N.length := by have := congrArg List.length S.pre; rw [List.length_take] at this; omega
  exact F.okX S (fun vs H Q E h => h.1) fun cdv A outer s H vs Q E hr h => ⟨_, hbody cdv A outer s H E hr, body_sp hN h⟩
end Rf

set_option Elab.async false
set_option linter.all false
set_option maxRecDepth 100000
/-! Rf, part J: subscripts, attributes, methods, new instances. -/
namespace Rf
open PySem L2 PyProof.Rows

section
variable {K : PySem.W.Frag} {ca : CA} {ρ : List Addr} {H : Hp} {W : Addr → Prop} {v : V}
theorem Reps.atI {ds : List D} {vs : List V} {i : Int} {d : D} (r : Reps K ca ρ H ds vs) (h : L2.atI ds i = some d) : ∃ v, L2.atI vs i = some v ∧ Rep K ca ρ H d v := by
  unfold L2.atI at h ⊢
  rw [← r.length]
  cases e : ixN ds.length i with
  | none => rw [e] at h; cases h
  | some j =>
    rw [e] at h
    exact r.get (show ds[j]? = some d from h)
theorem RepF.look {f : Str} : ∀ {fs : List (Str × D)} {vs : List (Str × V)} {d : D}, RepF K ca ρ H fs vs → lookF f fs = some d → ∃ v, vs.lookup f = some v ∧ Rep K ca ρ H d v
  | _, _, _, .nil, e => by simp [lookF] at e
  | _, _, _, .cons (f := n) (v := v) h t, e => by
    unfold lookF at e
    by_cases q : f = n
    · rw [if_pos q] at e
      cases e
      exact ⟨v, by rw [List.lookup_cons, q]; simp, h⟩
    · rw [if_neg q] at e
      obtain ⟨w, h1, h2⟩ := t.look e
      refine ⟨w, ?_, h2⟩
      rw [List.lookup_cons]
      have : (f == n) = false := by simpa using q
      rw [this]; exact h1
theorem RepF.lookN {f : Str} : ∀ {fs : List (Str × D)} {vs : List (Str × V)}, RepF K ca ρ H fs vs → lookF f fs = none → vs.lookup f = none
  | _, _, .nil, e => rfl
  | _, _, .cons (f := n) (v := v) h t, e => by
    unfold lookF at e
    by_cases q : f = n
    · rw [if_pos q] at e
      cases e
    · rw [if_neg q] at e
      rw [List.lookup_cons]
      have : (f == n) = false := by simpa using q
      rw [this]; exact t.lookN e
theorem RepC.rep_tup {ds : List D} (r : RepC K ca ρ (hide W H) H (.tup ds) v) : Rep K ca ρ (hide W H) (.tup ds) v := by
  rcases r with r | ⟨a, _, t⟩
  · exact r
  · exact t.elim
theorem cut_reps {ds : List D} {vs : List V} (r : Reps K ca ρ H ds vs) (lo hi : Option Int) : Reps K ca ρ H (cutD ds lo hi) (cutV vs lo hi) := by
  unfold cutD cutV
  rw [← r.length]
  exact (r.drop _).take _
theorem Reps.reverse : ∀ {ds : List D} {vs : List V}, Reps K ca ρ H ds vs → Reps K ca ρ H ds.reverse vs.reverse
  | _, _, .nil => .nil
  | _, _, .cons h t => by
    rw [List.reverse_cons, List.reverse_cons]
    exact t.reverse.append (.cons h .nil)
end

/-! ### a[b] -/
def rIxK : R2 := fun x y H Q => ∃ a w, x = .ref a ∧ DGet H a y (some w) ∧ Q w H
theorem ix_dK {X : Cx} (hu : X.A.units + 1 < cLine) : IxR X rIxK := by
  intro value slice pins s σ H x y v u Q I rx ry h hs
  obtain ⟨a, w, rfl, d, q⟩ := h
  cases rx
  exact tail_any (dict_typeIs I d) PySem.F.slot_dict_getitem.lookup (d_getItem hu I d ry fun w' s3 I3 rw' => ⟨w, H, I3, rw', q⟩) hs
def rIxAll (K : PySem.W.Frag) : R2 := fun x y H Q => rIx K x y H Q ∨ rIxK x y H Q
theorem ix_all {X : Cx} (hu : X.A.units + 1 < cLine) : IxR X (rIxAll X.K) := ix_seq.or (ix_dK hu)
section
variable {g : G} {X : Cx} {E : L2.WX} {a b e o : Expr} {ma mb : M Hd} {pos : Pos}
theorem ok_ix : OpOk g itemD (rIxAll g.K) := by
  intro F st σ H x y z v u Q ok rx ry e q
  cases x <;> simp only [itemD, reduceCtorEq] at e
  · cases y <;> simp only [reduceCtorEq] at e
    split at e
    · rename_i hl
      simp only [Option.map_eq_some_iff] at e
      obtain ⟨c, e, rfl⟩ := e
      cases rx.str; cases ry.int
      exact .inl (.inr (.inr ⟨_, _, c, rfl, rfl, by rw [← lim_eq]; exact hl, e, q _ _ Lk.refl ok (.str _)⟩))
    · cases e
  · cases y <;> simp only [reduceCtorEq] at e
    obtain ⟨a, vs, rfl, h, r⟩ := rx.tup
    cases ry.int
    obtain ⟨w, e1, rw'⟩ := r.atI e
    exact .inl (.inr (.inl ⟨a, vs, _, w, rfl, rfl, h, e1, q _ _ Lk.refl ok rw'⟩))
  · cases y <;> simp only [reduceCtorEq] at e
    obtain ⟨a, vs, rfl, h, r⟩ := rx.lst
    cases ry.int
    obtain ⟨w, e1, rw'⟩ := r.atI e
    exact .inl (.inl ⟨a, vs, _, w, rfl, rfl, SqL.of h, e1, q _ _ Lk.refl ok rw'⟩)
  · cases y <;> simp only [reduceCtorEq] at e
    obtain ⟨a, vs, rfl, h, r⟩ := rx.frl
    cases ry.int
    obtain ⟨w, e1, rw'⟩ := r.atI e
    exact .inl (.inl ⟨a, vs, _, w, rfl, rfl, h, e1, q _ _ Lk.refl ok rw'⟩)
  · split at e
    · rename_i hk
      obtain ⟨k, hk⟩ := Option.isSome_iff_exists.mp hk
      obtain ⟨a, ks, rfl, h, r⟩ := rx.dct
      have ev := kV_key ry hk
      subst ev
      rcases r.look hk with ⟨e1, e2⟩ | ⟨d, w, e1, e2, rw'⟩
      · rw [e2] at e; cases e
      · rw [e2] at e; cases e
        exact .inr ⟨a, w, rfl, by rw [← e1]; exact DGet.kR h, q _ _ Lk.refl ok rw'⟩
    · cases e
theorem rf_sub (hK : X.K = g.K) (hu : X.A.units + 1 < cLine) (ha : PE X a (RE g E ma)) (hb : PE X b (RE g E mb)) (hs : PlainIx b) : PE X (.Subscript a b pos) (RE g E (mBin itemD ma mb)) :=
  (pe_ix (ix_all hu) ha hb hs).weak fun _ _ _ h => by rw [hK]; exact rf_op2 ok_ix h

/-! ### a[b:c] -/
def RO (g : G) (E : L2.WX) (m : M (Option Int)) : TO := RF g (fun _ _ _ a b => a = b) E m
theorem _root_.L2.PO.weak {X : Cx} {e : Option Expr} {t t' : TO} (h : PO X e t) (w : ∀ σ H Q, t' σ H Q → t σ H Q) : PO X e t' := ⟨fun pins s σ H Q I q => h.run pins s σ H Q I (w σ H Q q)⟩
theorem rf_part0 : PO X none (RO g E (mPart none)) := po_none.weak fun σ H Q ⟨F, st, h⟩ => h.here (R := fun _ _ _ a b => a = b) rfl
theorem rf_part (ha : PE X a (RE g E ma)) : PO X (some a) (RO g E (mPart (some ma))) := (po_some ha).weak fun σ H Q ⟨F, st, h⟩ =>
  ⟨F, st, (RFw.bind (R := RH g) h).mono fun v H1 ⟨F1, h1, st1, l1, r1, h⟩ => by
    obtain ⟨d, rc, h⟩ := h.look_bind r1
    obtain ⟨i, e, h⟩ := h.opt_bind
    cases d <;> simp only [asInt, reduceCtorEq, Option.some.injEq] at e
    subst e
    exact ⟨_, rc.int, h.here rfl⟩⟩
def rSlAll (K : PySem.W.Frag) : V → Option Int → Option Int → Hp → VK → Prop := fun x lo hi H Q => rSlA K x lo hi H Q ∨ rSlL K x lo hi H Q
theorem sl_all : SlR X (rSlAll X.K) := sl_tupA.or sl_list
theorem cutV_whole {vs : List V} {lo hi : Option Int} (h : HT.sIx vs.length 0 lo = 0 ∧ HT.sIx vs.length vs.length hi = vs.length) : cutV vs lo hi = vs := by
  unfold cutV
  rw [h.1, h.2]; simp
theorem cutD_whole {vs : List D} {lo hi : Option Int} (h : HT.sIx vs.length 0 lo = 0 ∧ HT.sIx vs.length vs.length hi = vs.length) : cutD vs lo hi = vs := by
  unfold cutD
  rw [h.1, h.2]; simp
theorem rf_slice {lo hi : Option Expr} {ml mh : Option (M Hd)} {p2 : Pos} (hK : X.K = g.K) (ha : PE X a (RE g E ma)) (hl : PO X lo (RO g E (mPart ml))) (hh : PO X hi (RO g E (mPart mh))) :
    PE X (.Subscript a (.Slice lo hi none p2) pos) (RE g E (mSlice ma ml mh)) := (pe_slice sl_all ha hl hh).weak fun σ H Q ⟨F, st, h⟩ =>
  ⟨F, st, (RFw.bind (R := RH g) h).mono fun v H1 ⟨F1, h1, st1, l1, r1, h⟩ =>
    ⟨F1, st1, (RFw.bind (R := fun _ _ _ a b => a = b) h).mono fun lo' H2 ⟨F2, lo2, st2, l2, r2, h⟩ => by
      cases r2
      exact ⟨F2, st2, (RFw.bind (R := fun _ _ _ a b => a = b) h).mono fun hi' H3 ⟨F3, hi3, st3, l3, r3, h⟩ => by
        cases r3
        obtain ⟨x, rc, h⟩ := h.look_bind (RepH.lk l3 (RepH.lk l2 r1))
        obtain ⟨z, e, h⟩ := h.opt_bind
        rw [hK]
        cases x <;> simp only [sliceD, reduceCtorEq, Option.some.injEq] at e
        · subst e
          obtain ⟨a, vs, rfl, h1, r⟩ := rc.tup
          refine .inl ⟨a, vs, rfl, h1, fun w => ?_, fun w p hp => ?_⟩
          · refine h.here (R := RH g) ?_
            show Rep g.K g.ca _ _ _ _
            rw [cutD_whole (by rw [r.length]; exact w)]; exact rc.rep_tup
          · have l := h.1.lk_upd (o := .tup (cutV vs lo' hi')) hp
            exact h.ret_end l (h.1.upd hp) (.tup (SqT.of (h.1.seen hp)) ((cut_reps r lo' hi').lk l))
        · subst e
          obtain ⟨a, vs, rfl, h1, r⟩ := rc.lst
          refine .inr ⟨a, vs, rfl, SqL.of h1, fun p hp => ?_⟩
          have l := h.1.lk_upd (o := .lst (cutV vs lo' hi')) hp
          exact h.ret_end l (h.1.upd hp) (.lst (h.1.seen hp) ((cut_reps r lo' hi').lk l))
        · subst e
          obtain ⟨a, vs, rfl, h1, r⟩ := rc.frl
          refine .inr ⟨a, vs, rfl, h1, fun p hp => ?_⟩
          have l := h.1.lk_upd (o := .lst (cutV vs lo' hi')) hp
          exact h.ret_end l (h.1.upd hp) (.lst (h.1.seen hp) ((cut_reps r lo' hi').lk l))⟩⟩⟩
theorem rf_rev {k : Nat} {p1 p2 p3 : Pos} (hK : X.K = g.K) (ha : PE X a (RE g E ma)) : PE X (.Subscript a (.Slice none none (some (.UnaryOp .USub (.Constant (.int 1) k p1) p2)) p3) pos) (RE g E (mRev ma)) := (pe_revL ha).weak fun σ H Q ⟨F, st, h⟩ =>
  ⟨F, st, (RFw.bind (R := RH g) h).mono fun v H1 ⟨F1, h1, st1, l1, r1, h⟩ => by
    obtain ⟨d, rc, h⟩ := h.look_bind r1
    rw [hK]
    cases d <;> first
      | (exact h.2.elim)
      | skip
    · obtain ⟨a, vs, rfl, h1, r⟩ := rc.lst
      refine ⟨a, vs, rfl, SqL.of h1, fun p hp => ?_⟩
      have l := h.1.lk_upd (o := .lst vs.reverse) hp
      exact h.ret_end l (h.1.upd hp) (.lst (h.1.seen hp) (r.reverse.lk l))
    · obtain ⟨a, vs, rfl, h1, r⟩ := rc.frl
      refine ⟨a, vs, rfl, h1, fun p hp => ?_⟩
      have l := h.1.lk_upd (o := .lst vs.reverse) hp
      exact h.ret_end l (h.1.upd hp) (.lst (h.1.seen hp) (r.reverse.lk l))⟩

/-! ### e.f -/
/-- what isinstance asks of an own class -/
structure InsT (K : PySem.W.Frag) (C : Addr) : Prop where
  cl : Cls K C
  ha : PySem.W.findIn K (.ref C) "__class__" = some (some (.builtin "object.__class__"))
  hn : PySem.W.specialIn K (.builtin "object.__class__") "__get__" = some (some (.builtin "getset_descriptor.__get__"))
  htk : PySem.W.takesIn K (.builtin "object.__class__") = some true
  hm : PySem.W.mroIn K C (.type "object") = some true
def G.tv (g : G) : Ty → Value
  | .b s => .type s
  | .c n => .ref (g.ca.cl n)
def G.tV (g : G) : Ty → V
  | .b s => .ty s
  | .c n => .ref (g.ca.cl n)
/-- the classes' facts -/
structure ClsF (g : G) : Prop where
  isi : ∀ t q b, g.isi t q = some b → PySem.W.kitOne g.K (g.tv t) (g.tv q) = some b
  ity : ∀ c q b, g.isi (.c c) q = some b → InsT g.K (g.ca.cl c)
  nf : ∀ c c', g.nf c c' = true → PySem.W.notFirst g.K (g.ca.cl c) (.ref (g.ca.cl c')) = true
  ne : ∀ c, g.hne c = true → PySem.W.findIn g.K (.ref (g.ca.cl c)) "__ne__" = some (some (.builtin "object.__ne__")) ∧ PySem.W.mroIn g.K (g.ca.cl c) (.type "object") = some true
  fld : ∀ c f, g.okF c f = true → Cls g.K (g.ca.cl c) ∧ NoAttr g.K (g.ca.cl c) f
  meth : ∀ c m i, g.meth c m = some i → Cls g.K (g.ca.cl c) ∧ Meth g.K (g.ca.cl c) m (g.fa i)
theorem rf_fld {f : Str} (hK : X.K = g.K) (C : ClsF g) (ha : PE X a (RE g E ma)) (hb : attributeBase a f X.env (eval a X.env) = eval a X.env) : PE X (.Attribute a f pos) (RE g E (mFld g.toGd f ma)) := (pe_fld ha hb).weak fun σ H Q ⟨F, st, h⟩ =>
  ⟨F, st, (RFw.bind (R := RH g) h).mono fun v H1 ⟨F1, h1, st1, l1, r1, h⟩ => by
    obtain ⟨d, rc, h⟩ := h.look_bind r1
    obtain ⟨⟨c, x⟩, e, h⟩ := h.opt_bind
    rw [hK]
    cases d <;> simp only [fldD, reduceCtorEq] at e
    simp only [Option.map_eq_some_iff, Prod.mk.injEq] at e
    obtain ⟨y, e, rfl, rfl⟩ := e
    obtain ⟨a, dx, vs, rfl, h1, r⟩ := rc.ins
    obtain ⟨w, e1, rw'⟩ := r.look e
    split at h
    · rename_i hc
      obtain ⟨c1, c2⟩ := C.fld _ _ hc
      exact ⟨a, _, dx, vs, w, rfl, h1, c1, c2, e1, h.here rw'⟩
    · exact h.2.elim⟩
/-- the defs' promises -/
def HasF (g : G) (X : Cx) (oc : Oc) (k i : Nat) : Prop := ∃ j fd ps, j ≤ k ∧ FnOk X.prog X.w X.K X.mg X.base (L2.CX X.prog X.w) j (g.fa i) fd ps (spF g (g.fn i) (oc i)) ∧ PySem.W.keepIn X.K (.ref (g.fa i)) = true ∧ Binds X.K fd ps []
/-- o.m(..), the class read off the object -/
def tMethD (C : Addr → Nat → Prop) (m : Str) (sp : Nat → Sp) (E : L2.WX) (ta : TE) (t : TA) : TE := fun σ H Q => ta σ H fun x H1 => ∃ a C' dx fs i, x = .ref a ∧ H1 a = some (.ins C' dx fs) ∧ C C' i ∧ fs.lookup m = none ∧
  t σ H1 fun vs H2 => sp i (x :: vs) H2 Q (WE E σ)
def MethOk (X : Cx) (k : Nat) (C : Addr → Nat → Prop) (m : Str) (sp : Nat → Sp) : Prop := ∀ C' i, C C' i → ∃ f j fd ps, Cls X.K C' ∧ Meth X.K C' m f ∧ j ≤ k ∧ FnOk X.prog X.w X.K X.mg X.base (L2.CX X.prog X.w) j f fd ps (sp i) ∧ Binds X.K fd ps []
theorem pe_methD {C : Addr → Nat → Prop} {m : Str} {sp : Nat → Sp} {ta : TE} {t' : TA} {apos : Pos} {k : Nat} {es : List Expr} {pl : Sem Bool} (he : PE X o ta)
    (hC : MethOk X k C m sp) (hr : Room k X.A) (tk : Takes X E) (ha : PA X (e :: es) t')
    (hst : starEach (e :: es) X.env = (false, eval e X.env) :: starEach es X.env) (hpl : (backTo pos (starEach es X.env)).any (·.1) = false)
    (ht : eval (.Call (.Attribute o m apos) (e :: es) [] pos) X.env = (do
      let ov ← eval o X.env
      standAt apos.atName
      let (f, first) ← holding [ov] (getMethod ov m pl)
      callWith pos f first (backTo pos (starEach (e :: es) X.env)) (backToKw pos (keywordEach [] X.env)))) :
    PE X (.Call (.Attribute o m apos) (e :: es) [] pos) (tMethD C m sp E ta t') := by
  refine ⟨fun pins s σ H Q I h => ?_⟩
  refine PySem.W.methodCall_KW (pl := pl) (thn (he.run pins s σ H _ I h) fun u s1 ⟨x, H1, I1, rx, a, C', dx, fs, i, ex, ea, hc, l, q⟩ => ?_) ht
  obtain ⟨f, j, fd, ps, c, hm, hj, F, hb⟩ := hC C' i hc
  subst ex
  obtain rfl : u = Value.ref a := rx
  refine getmeth_ok I1 ea c hm l ?_
  refine PySem.W.callWith_K (first := [.ref a]) (h₀ := X.base) I.ok.mod.kin hm.kp (thn (ha.run pos pins s1 σ H1 _ I1 q) fun us s2 ⟨vs, H2, I2, r, q2⟩ => ⟨I2.kIn, ?_⟩) hst hpl
  exact run_fnS (us := .ref a :: us) (vs := .ref a :: vs) F (hr.mono hj) hb (passAt tk σ) I2 (.cons rfl r) q2
theorem pe_methD0 {C : Addr → Nat → Prop} {m : Str} {sp : Nat → Sp} {ta : TE} {apos : Pos} {k : Nat} {pl : Sem Bool} (he : PE X o ta)
    (hC : MethOk X k C m sp) (hr : Room k X.A) (tk : Takes X E)
    (ht : eval (.Call (.Attribute o m apos) [] [] pos) X.env = (do
      let ov ← eval o X.env
      standAt apos.atName
      let (f, first) ← holding [ov] (getMethod ov m pl)
      callWith pos f first (backTo pos (starEach [] X.env)) (backToKw pos (keywordEach [] X.env)))) :
    PE X (.Call (.Attribute o m apos) [] [] pos) (tMethD C m sp E ta tNil) := by
  refine ⟨fun pins s σ H Q I h => ?_⟩
  refine PySem.W.methodCall_KW (pl := pl) (thn (he.run pins s σ H _ I h) fun u s1 ⟨x, H1, I1, rx, a, C', dx, fs, i, ex, ea, hc, l, q⟩ => ?_) ht
  obtain ⟨f, j, fd, ps, c, hm, hj, F, hb⟩ := hC C' i hc
  subst ex
  obtain rfl : u = Value.ref a := rx
  refine getmeth_ok I1 ea c hm l ?_
  exact PySem.W.callWith_K0 (first := [.ref a]) I1.kIn hm.kp (run_fnS (us := [.ref a]) (vs := [.ref a]) F (hr.mono hj) hb (passAt tk σ) I1 (.cons rfl .nil) q)
end
end Rf

set_option Elab.async false
set_option linter.all false
set_option maxRecDepth 100000
/-! Rf, part K: fresh things, slots that alone hold a thing, boxes. -/
namespace Rf
open PySem L2 PyProof.Rows

section
variable {K : PySem.W.Frag} {ca : CA} {F : Fm} {st : Stt} {σ : L2.St} {H H' : Hp}
theorem FrOk.he (ok : FrOk K ca F st σ H) {p : Addr} (e : H p = none) : F.He p = none := by
  cases q : F.He p with
  | none => rfl
  | some o =>
    exact absurd e (ok.dom p (by rw [q]; simp))
theorem FrOk.tmN (ok : FrOk K ca F st σ H) {j : Nat} (h : st.tm.length ≤ j) : F.tm j = none := by
  cases q : F.tm j with
  | none => rfl
  | some a =>
    obtain ⟨o, e, _⟩ := ok.tm j a q
    rw [List.getElem?_eq_none h] at e; cases e
def Fm.put (F : Fm) (j : Nat) (p : Addr) : Fm := { F with tm := fun k => if k = j then some p else F.tm k }
def Fm.off (F : Fm) (j : Nat) : Fm := { F with tm := fun k => if k = j then none else F.tm k }
def pushT (d : D) (st : Stt) : Stt := { st with tm := st.tm ++ [d] }
def popT (j : Nat) (st : Stt) : Stt := { st with tm := st.tm.take j }
theorem FrOk.push (ok : FrOk K ca F st σ H) {p : Addr} {o : HO} {d : D} (e : H p = none) (t : Top K ca F.ρ (hide F.W H) (L2.upd H p o) p d) :
    Lk F H (F.put st.tm.length p) (L2.upd H p o) ∧ FrOk K ca (F.put st.tm.length p) (pushT d st) σ (L2.upd H p o) := by
  have nw := ok.new e
  have hs : Sub (hide F.W H) (hide (F.put st.tm.length p).W (L2.upd H p o)) := fun a u h _ => by
    obtain ⟨n, h⟩ := hide_some.mp h
    have np := ne_of_none h e
    refine hide_of (fun w => ?_) (by rw [upd_ne np]; exact h)
    rcases w with w | w | w | ⟨j, w⟩
    · exact n (.inl w)
    · exact n (.inr (.inl w))
    · exact n (.inr (.inr (.inl w)))
    · have w : (if j = st.tm.length then some p else F.tm j) = some a := w
      split at w
      · cases w; exact np rfl
      · exact n (.inr (.inr (.inr ⟨j, w⟩)))
  have kp : ∀ a u, H a = some u → L2.upd H p o a = some u := fun a u h => by rw [upd_ne (ne_of_none h e)]; exact h
  have tp : ∀ {a x}, Top K ca F.ρ (hide F.W H) H a x → Top K ca F.ρ (hide (F.put st.tm.length p).W (L2.upd H p o)) (L2.upd H p o) a x := fun t => t.mono hs (List.prefix_refl _) (fun u h => kp _ _ h)
  have tmo : ∀ j a, (F.put st.tm.length p).tm j = some a → (j = st.tm.length ∧ a = p) ∨ (j ≠ st.tm.length ∧ F.tm j = some a) := fun j a h => by
    have h : (if j = st.tm.length then some p else F.tm j) = some a := h
    split at h
    · cases h; exact .inl ⟨by assumption, rfl⟩
    · exact .inr ⟨by assumption, h⟩
  refine ⟨⟨⟨rfl, rfl, rfl, List.prefix_refl _, hs⟩, fun j a h => ?_⟩, ok.len, fun i d h => let ⟨v, e1, r⟩ := ok.val i d h; ⟨v, e1, r.mono hs (List.prefix_refl _)⟩, fun i x h => let ⟨a, e1, e2, t⟩ := ok.own i x h; ⟨a, e1, e2, tp t⟩,
    fun j a h => ?_, fun j a h => let ⟨x, e1, t⟩ := ok.box j a h; ⟨x, e1, tp t⟩, ok.boxn, ok.nd, ok.ownI, fun i j a h1 h2 => ?_, fun i j a h1 h2 => ?_,
    fun i a h => let ⟨e1, e2, e3⟩ := ok.ownF i a h; ⟨e1, e2, let ⟨o, q1, q2, q3⟩ := e3; ⟨o, kp _ _ q1, q2, q3⟩⟩, fun j a h => ?_, ok.bF, fun a u h n nt => kp _ _ (ok.mono a u h n nt), ok.pre0, ok.new0, fun a h => dom_upd (ok.dom a h), ok.tab.ext kp, ok.slf⟩
  · show (if j = st.tm.length then some p else F.tm j) = some a
    rw [if_neg (fun z => by rw [ok.tmN (Nat.le_of_eq z.symm)] at h; cases h)]; exact h
  · rcases tmo j a h with ⟨h1, h2⟩ | ⟨h1, h2⟩
    · rw [h1, h2]
      exact ⟨d, by simp [pushT], t.mono hs (List.prefix_refl _) fun _ h => h⟩
    · obtain ⟨x, e1, t⟩ := ok.tm j a h2
      exact ⟨x, by show (st.tm ++ [d])[j]? = some x; rw [List.getElem?_append_left (List.getElem?_eq_some_iff.mp e1).1]; exact e1, tp t⟩
  · rcases tmo i a h1 with ⟨i1, rfl⟩ | ⟨i1, h1'⟩ <;> rcases tmo j _ h2 with ⟨i2, h2'⟩ | ⟨i2, h2'⟩
    · rw [i1, i2]
    · obtain ⟨x, _, t⟩ := ok.tm j _ h2'
      obtain ⟨u, q, _⟩ := t.there
      rw [e] at q; cases q
    · subst h2'
      obtain ⟨x, _, t⟩ := ok.tm i _ h1'
      obtain ⟨u, q, _⟩ := t.there
      rw [e] at q; cases q
    · exact ok.tmI i j a h1' h2'
  · rcases tmo j a h2 with ⟨_, rfl⟩ | ⟨_, h2⟩
    · exact (ok.ownF i _ h1).2.2.ne e
    · exact ok.ownT i j a h1 h2
  · rcases tmo j a h with ⟨_, rfl⟩ | ⟨_, h⟩
    · exact ⟨ok.he e, fun z => nw (.inr (.inl z))⟩
    · exact ok.tmF j a h
theorem Fm.off_sub {F : Fm} {j : Nat} {a : Addr} (h : (F.off j).W a) : F.W a := by
  rcases h with w | w | w | ⟨k, w⟩
  · exact .inl w
  · exact .inr (.inl w)
  · exact .inr (.inr (.inl w))
  · have w : (if k = j then none else F.tm k) = some a := w
    split at w
    · cases w
    · exact .inr (.inr (.inr ⟨k, w⟩))
theorem Fm.off_tm {F : Fm} {j k : Nat} {a : Addr} (h : (F.off j).tm k = some a) : k ≠ j ∧ F.tm k = some a := by
  have w : (if k = j then none else F.tm k) = some a := h
  split at w
  · cases w
  · exact ⟨by assumption, w⟩
theorem hide_le {W W' : Addr → Prop} (h : ∀ a, W' a → W a) : Sub (hide W H) (hide W' H) := fun a u q _ => hide_of (fun w => (hide_some.mp q).1 (h a w)) (hide_some.mp q).2
/-- the topmost temporary is given away as a value -/
theorem FrOk.popV (ok : FrOk K ca F st σ H) {j : Nat} {a : Addr} {o : D} (h : F.tm j = some a) (e : st.tm[j]? = some o) (hl : st.tm.length = j + 1) :
    LkS F H (F.off j) H ∧ (∀ k b, k ≠ j → F.tm k = some b → (F.off j).tm k = some b) ∧ FrOk K ca (F.off j) (popT j st) σ H ∧ Rep K ca (F.off j).ρ (hide (F.off j).W H) o (.ref a) := by
  have hs : Sub (hide F.W H) (hide (F.off j).W H) := hide_le fun b w => Fm.off_sub w
  have tp : ∀ {b x}, Top K ca F.ρ (hide F.W H) H b x → Top K ca F.ρ (hide (F.off j).W H) H b x := fun t => t.mono hs (List.prefix_refl _) (fun u h => h)
  obtain ⟨o', e', t⟩ := ok.tm j a h
  rw [e] at e'; cases e'
  have nw : ¬ (F.off j).W a := by
    obtain ⟨f1, f2⟩ := ok.tmF j a h
    rintro (w | w | ⟨k, w⟩ | ⟨k, w⟩)
    · exact (ok.bF a w).1.ne f1
    · exact f2 w
    · exact ok.ownT k j a w h
    · obtain ⟨w1, w2⟩ := Fm.off_tm w
      exact w1 (ok.tmI k j a w2 h)
  refine ⟨⟨rfl, rfl, rfl, List.prefix_refl _, hs⟩, fun k b n q => by show (if k = j then none else F.tm k) = some b; rw [if_neg n]; exact q,
    ⟨ok.len, fun i d h => let ⟨v, e1, r⟩ := ok.val i d h; ⟨v, e1, r.mono hs (List.prefix_refl _)⟩, fun i x h => let ⟨a, e1, e2, t⟩ := ok.own i x h; ⟨a, e1, e2, tp t⟩,
    fun k b q => ?_, fun j a h => let ⟨x, e1, t⟩ := ok.box j a h; ⟨x, e1, tp t⟩, ok.boxn, ok.nd, ok.ownI, fun i k b h1 h2 => ok.tmI i k b (Fm.off_tm h1).2 (Fm.off_tm h2).2, fun i k b h1 h2 => ok.ownT i k b h1 (Fm.off_tm h2).2, ok.ownF, fun k b q => ok.tmF k b (Fm.off_tm q).2, ok.bF, ok.mono, ok.pre0, ok.new0, ok.dom, ok.tab, ok.slf⟩, ?_⟩
  · obtain ⟨q1, q2⟩ := Fm.off_tm q
    obtain ⟨x, e1, t⟩ := ok.tm k b q2
    have hk := (List.getElem?_eq_some_iff.mp e1).1
    exact ⟨x, by show (st.tm.take j)[k]? = some x; rw [List.getElem?_take, if_pos (by omega)]; exact e1, tp t⟩
  · cases o <;> first | exact t.elim | skip
    · obtain ⟨vs, q, r⟩ := t; exact .lst (hide_of nw q) (r.mono hs (List.prefix_refl _))
    · obtain ⟨vs, q, r⟩ := t; exact .dct (.inl (hide_of nw q)) (r.mono hs (List.prefix_refl _))
    · obtain ⟨dx, vs, q, r⟩ := t; exact .ins (hide_of nw q) (r.mono hs (List.prefix_refl _))
def setOwn (i : Nat) (o : D) (st : Stt) : Stt := { st with σ := st.σ.set i (.own o) }
/-- .. put into a slot that alone holds it -/
theorem FrOk.popO (ok : FrOk K ca F st σ H) {j : Nat} {a : Addr} {o : D} (i : Nat) (i0 : 0 < i) (h : F.tm j = some a) (e : st.tm[j]? = some o) :
    ∃ F', LkS F H F' H ∧ FrOk K ca F' (setOwn i o st) (σ.set i (some (.ref a))) H ∧ ∀ k b, k ≠ j → F.tm k = some b → F'.tm k = some b := by
  let F' : Fm := { F.off j with own := fun k => if k = i then some a else F.own k }
  obtain ⟨o', e', t⟩ := ok.tm j a h
  rw [e] at e'; cases e'
  have ow : ∀ k b, F'.own k = some b → (k = i ∧ b = a) ∨ (k ≠ i ∧ F.own k = some b) := fun k b q => by
    have q : (if k = i then some a else F.own k) = some b := q
    split at q
    · cases q; exact .inl ⟨by assumption, rfl⟩
    · exact .inr ⟨by assumption, q⟩
  have hs : Sub (hide F.W H) (hide F'.W H) := hide_le fun b w => by
    rcases w with w | w | ⟨k, w⟩ | ⟨k, w⟩
    · exact .inl w
    · exact .inr (.inl w)
    · rcases ow k b w with ⟨_, rfl⟩ | ⟨_, w⟩
      · exact .inr (.inr (.inr ⟨j, h⟩))
      · exact .inr (.inr (.inl ⟨k, w⟩))
    · exact .inr (.inr (.inr ⟨k, (Fm.off_tm w).2⟩))
  have tp : ∀ {b x}, Top K ca F.ρ (hide F.W H) H b x → Top K ca F.ρ (hide F'.W H) H b x := fun t => t.mono hs (List.prefix_refl _) (fun u h => h)
  have olt : ∀ k (s : Sl), (st.σ.set i (.own o))[k]? = some s → k < σ.length := fun k s q => by
    have := (List.getElem?_eq_some_iff.mp q).1
    rw [List.length_set] at this
    rw [← ok.len]; exact this
  have na : Mu (H a) := t.mu
  refine ⟨F', ⟨rfl, rfl, rfl, List.prefix_refl _, hs⟩, ⟨by simpa [setOwn] using ok.len, fun k x q => ?_, fun k x q => ?_, fun k b q => ?_, fun j a h => let ⟨x, e1, t⟩ := ok.box j a h; ⟨x, e1, tp t⟩, ok.boxn, ok.nd, fun k l b q1 q2 => ?_, fun i k b h1 h2 => ok.tmI i k b (Fm.off_tm h1).2 (Fm.off_tm h2).2, fun k l b q1 q2 => ?_, fun k b q => ?_, fun k b q => ok.tmF k b (Fm.off_tm q).2, ok.bF, ok.mono, ok.pre0, ok.new0, ok.dom, ok.tab, fun x p e q => by
      rcases Sl_set (j := 0) q with ⟨z, _⟩ | ⟨hj, z⟩
      · omega
      · show (if 0 = i then some a else F.own 0) = some x
        rw [if_neg hj]; exact ok.slf x p e z⟩, fun k b n q => by show (if k = j then none else F.tm k) = some b; rw [if_neg n]; exact q⟩
  · have q : (st.σ.set i (.own o))[k]? = some (.val x) := q
    rcases Sl_set q with ⟨e, q⟩ | ⟨hj', q⟩
    · cases q
    · obtain ⟨w, h1, h2⟩ := ok.val k x q
      exact ⟨w, by rw [List.getElem?_set_ne (Ne.symm hj')]; exact h1, h2.mono hs (List.prefix_refl _)⟩
  · have q : (st.σ.set i (.own o))[k]? = some (.own x) := q
    have hk := olt k _ q
    rcases Sl_set q with ⟨e, q⟩ | ⟨hj', q⟩
    · cases q
      exact ⟨a, by show (if k = i then some a else F.own k) = some a; rw [if_pos e], by rw [e] at hk ⊢; rw [List.getElem?_set_self hk], tp t⟩
    · obtain ⟨b, h1, h2, h3⟩ := ok.own k x q
      exact ⟨b, by show (if k = i then some a else F.own k) = some b; rw [if_neg hj']; exact h1, by rw [List.getElem?_set_ne (Ne.symm hj')]; exact h2, tp h3⟩
  · obtain ⟨q1, q2⟩ := Fm.off_tm q
    obtain ⟨x, e1, t⟩ := ok.tm k b q2
    exact ⟨x, e1, tp t⟩
  · rcases ow k b q1 with ⟨r1, z1⟩ | ⟨n1, r1⟩ <;> rcases ow l b q2 with ⟨r2, z2⟩ | ⟨n2, r2⟩
    · rw [r1, r2]
    · subst z1; exact absurd h (ok.ownT l j _ r2)
    · subst z2; exact absurd h (ok.ownT k j _ r1)
    · exact ok.ownI k l b r1 r2
  · obtain ⟨q4, q3⟩ := Fm.off_tm q2
    rcases ow k b q1 with ⟨_, z1⟩ | ⟨n1, r1⟩
    · subst z1; exact q4 (ok.tmI l j _ q3 h)
    · exact ok.ownT k l b r1 q3
  · rcases ow k b q with ⟨_, z1⟩ | ⟨n1, q⟩
    · subst z1
      obtain ⟨f1, f2⟩ := ok.tmF j _ h
      exact ⟨f1, f2, na⟩
    · exact ok.ownF k b q
/-- .. put into a new box -/
theorem FrOk.popB (ok : FrOk K ca F st σ H) {j : Nat} {a : Addr} {o : D} (h : F.tm j = some a) (e : st.tm[j]? = some o) (hl : st.tm.length = j + 1) :
    LkS F H { F.off j with ρ := F.ρ ++ [a] } H ∧ FrOk K ca { F.off j with ρ := F.ρ ++ [a] } { popT j st with hs := st.hs ++ [o] } σ H := by
  let F' : Fm := { F.off j with ρ := F.ρ ++ [a] }
  obtain ⟨o', e', t⟩ := ok.tm j a h
  rw [e] at e'; cases e'
  obtain ⟨f1, f2⟩ := ok.tmF j a h
  have pr : F.ρ <+: F'.ρ := ⟨[a], rfl⟩
  have mem : ∀ {b}, b ∈ F'.ρ → b ∈ F.ρ ∨ b = a := fun {b} w => by
    rcases List.mem_append.mp (show b ∈ F.ρ ++ [a] from w) with w | w
    · exact .inl w
    · exact .inr (by simpa using w)
  have hs : Sub (hide F.W H) (hide F'.W H) := hide_le fun b w => by
    rcases w with w | w | ⟨k, w⟩ | ⟨k, w⟩
    · exact .inl w
    · rcases mem w with w | rfl
      · exact .inr (.inl w)
      · exact .inr (.inr (.inr ⟨j, h⟩))
    · exact .inr (.inr (.inl ⟨k, w⟩))
    · exact .inr (.inr (.inr ⟨k, (Fm.off_tm w).2⟩))
  have tp : ∀ {b x}, Top K ca F.ρ (hide F.W H) H b x → Top K ca F'.ρ (hide F'.W H) H b x := fun t => t.mono hs pr (fun u h => h)
  refine ⟨⟨rfl, rfl, rfl, pr, hs⟩, ok.len, fun i d h => let ⟨v, e1, r⟩ := ok.val i d h; ⟨v, e1, r.mono hs pr⟩, fun i x h => let ⟨a, e1, e2, t⟩ := ok.own i x h; ⟨a, e1, e2, tp t⟩, fun k b q => ?_, fun i b q => ?_, ?_, ?_, ok.ownI, fun i k b h1 h2 => ok.tmI i k b (Fm.off_tm h1).2 (Fm.off_tm h2).2, fun i k b h1 h2 => ok.ownT i k b h1 (Fm.off_tm h2).2,
    fun i b q => ?_, fun k b q => ?_, fun b q => ?_, fun b u q n nt => ?_, ok.pre0.trans pr, fun b q n => ?_, ok.dom, ok.tab, ok.slf⟩
  · obtain ⟨q1, q2⟩ := Fm.off_tm q
    obtain ⟨x, e1, t⟩ := ok.tm k b q2
    have hk := (List.getElem?_eq_some_iff.mp e1).1
    exact ⟨x, by show (st.tm.take j)[k]? = some x; rw [List.getElem?_take, if_pos (by omega)]; exact e1, tp t⟩
  · have q : (F.ρ ++ [a])[i]? = some b := q
    by_cases hi : i < F.ρ.length
    · rw [List.getElem?_append_left hi] at q
      obtain ⟨x, e1, t⟩ := ok.box i b q
      exact ⟨x, by show (st.hs ++ [o])[i]? = some x; rw [List.getElem?_append_left (List.getElem?_eq_some_iff.mp e1).1]; exact e1, tp t⟩
    · have hi2 := (List.getElem?_eq_some_iff.mp q).1
      rw [List.length_append, List.length_singleton] at hi2
      have hi3 : i = F.ρ.length := by omega
      subst hi3
      rw [List.getElem?_append_right (Nat.le_refl _), Nat.sub_self] at q
      cases q
      exact ⟨o, by show (st.hs ++ [o])[F.ρ.length]? = some o; rw [ok.boxn, List.getElem?_append_right (Nat.le_refl _), Nat.sub_self]; rfl, tp t⟩
  · show (F.ρ ++ [a]).length = (st.hs ++ [o]).length
    rw [List.length_append, List.length_append, ok.boxn]; rfl
  · show (F.ρ ++ [a]).Nodup
    rw [List.nodup_append]
    exact ⟨ok.nd, by simp, fun x hx y hy z => by
      have : y = a := by simpa using hy
      rw [z, this] at hx; exact f2 hx⟩
  · obtain ⟨g1, g2, g3⟩ := ok.ownF i b q
    refine ⟨g1, fun z => ?_, g3⟩
    rcases mem z with z | rfl
    · exact g2 z
    · exact ok.ownT i j _ q h
  · obtain ⟨q1, q2⟩ := Fm.off_tm q
    obtain ⟨g1, g2⟩ := ok.tmF k b q2
    refine ⟨g1, fun z => ?_⟩
    rcases mem z with z | rfl
    · exact g2 z
    · exact q1 (ok.tmI k j _ q2 h)
  · obtain ⟨g1, g2⟩ := ok.bF b q
    refine ⟨g1, fun z => ?_⟩
    rcases mem z with z | rfl
    · exact g2 z
    · exact g1.ne f1
  · exact ok.mono b u q (fun z => n (List.mem_append_left _ z)) nt
  · rcases mem q with q | rfl
    · exact ok.new0 b q n
    · exact f1
end
end Rf

set_option Elab.async false
set_option linter.all false
set_option maxRecDepth 100000
/-! Rf, part L: pieces that make and change things. -/
namespace Rf
open PySem L2 PyProof.Rows

/-! ### fresh things -/
def fresh (d : D) : M Nat := fun s => .ok s.tm.length (pushT d s)
def mVal (n : M Nat) : M Hd := fun s => match n s with
  | .ok j s1 => (match s1.tm[j]? with
    | some o => if j = s.tm.length ∧ s1.tm.length = j + 1 then .ok (.d o) (popT j s1) else .bad
    | none => .bad)
  | .exc c fs s1 => .exc c fs s1
  | .bad => .bad
/-- a new box -/
def mBox (n : M Nat) : M Hd := fun s => match n s with
  | .ok j s1 => (match s1.tm[j]? with
    | some o => if j = s.tm.length ∧ s1.tm.length = j + 1 then .ok (.d (.box s1.hs.length)) { popT j s1 with hs := s1.hs ++ [o] } else .bad
    | none => .bad)
  | .exc c fs s1 => .exc c fs s1
  | .bad => .bad
def nLst (m : M (List D)) : M Nat := bnd m fun ds => if ds.length ≤ lim then fresh (.lst ds) else bad
def nDct : M Nat := fresh (.dct [])
def nAdd (a b : M Hd) : M Nat := bnd a fun h => bnd b fun k => bnd (look h) fun x => bnd (look k) fun y => (match x, y with
  | .lst xs, .lst ys => if xs.length + ys.length ≤ lim then fresh (.lst (xs ++ ys)) else bad
  | _, _ => bad)
def clr (s : Stt) : Stt := { s with tm := [] }
/-- x = a fresh thing, kept by the slot alone -/
def sOwn (i : Nat) (n : M Nat) : MS := sM n fun j s => match s.tm[j]? with
  | some o => if 0 < i then .nx (clr (setOwn i o s)) else .bad
  | none => .bad

section
variable (g : G)
def RNr : Rl Nat V := fun F _ _ j v => ∃ a, v = .ref a ∧ F.tm j = some a
def RN (E : L2.WX) (m : M Nat) : TE := RF g RNr E m
end
section
variable {g : G} {X : Cx} {E : L2.WX} {F : Fm} {st : Stt} {σ : L2.St} {H : Hp} {Q : VK} {d : D} {p : Addr} {o : HO}
theorem RFw.fresh_end (h : RFw g RNr E (fresh d) F st σ H Q) (e : H p = none) (t : Top g.K g.ca F.ρ (hide F.W H) (L2.upd H p o) p d) : Q (.ref p) (L2.upd H p o) := by
  obtain ⟨ok, h⟩ := h
  obtain ⟨l, ok'⟩ := ok.push (o := o) e t
  exact h _ _ _ l ok' ⟨p, rfl, by show (if _ = _ then some p else _) = some p; rw [if_pos rfl]⟩
theorem RFw.val_of {n : M Nat} (w : RFw g (RH g) E (mVal n) F st σ H Q) : RFw g RNr E n F st σ H Q := by
  obtain ⟨ok, h⟩ := w
  refine ⟨ok, ?_⟩
  unfold mVal at h
  cases e : n st with
  | ok j s1 =>
    simp only [e] at h
    intro F1 v H1 l ok1 ⟨a, ev, ha⟩
    subst ev
    cases q : s1.tm[j]? with
    | none => simp only [q] at h; exact h.elim
    | some o =>
      simp only [q] at h
      by_cases hc : j = st.tm.length ∧ s1.tm.length = j + 1
      · rw [if_pos hc] at h
        obtain ⟨l2, ktm, ok2, rp⟩ := ok1.popV ha q hc.2
        refine h _ _ _ ⟨l.s.trans l2, fun k b z => ktm k b (fun z2 => ?_) (l.tmk k b z)⟩ ok2 rp
        rw [z2, hc.1, ok.tmN (Nat.le_refl _)] at z; cases z
      · rw [if_neg hc] at h; exact h.elim
  | exc c fs s1 => simp only [e] at h; exact h
  | bad => simp only [e] at h; exact h
theorem RFw.box_of {n : M Nat} (w : RFw g (RH g) E (mBox n) F st σ H Q) : RFw g RNr E n F st σ H Q := by
  obtain ⟨ok, h⟩ := w
  refine ⟨ok, ?_⟩
  unfold mBox at h
  cases e : n st with
  | ok j s1 =>
    simp only [e] at h
    intro F1 v H1 l ok1 ⟨a, ev, ha⟩
    subst ev
    cases q : s1.tm[j]? with
    | none => simp only [q] at h; exact h.elim
    | some o =>
      simp only [q] at h
      by_cases hc : j = st.tm.length ∧ s1.tm.length = j + 1
      · rw [if_pos hc] at h
        obtain ⟨l2, ok2⟩ := ok1.popB ha q hc.2
        refine h _ _ _ ⟨l.s.trans l2, fun k b z => ?_⟩ ok2 (.box ?_)
        · show (if k = j then none else F1.tm k) = some b
          rw [if_neg (fun z2 => by rw [z2, hc.1, ok.tmN (Nat.le_refl _)] at z; cases z)]
          exact l.tmk k b z
        · show (F1.ρ ++ [a])[s1.hs.length]? = some a
          rw [← ok1.boxn, List.getElem?_append_right (Nat.le_refl _), Nat.sub_self]; rfl
      · rw [if_neg hc] at h; exact h.elim
  | exc c fs s1 => simp only [e] at h; exact h
  | bad => simp only [e] at h; exact h
variable {e a b : Expr} {es : List Expr} {n : M Nat} {m : M (List D)} {ma mb : M Hd} {pos : Pos}
theorem rf_val (h : PE X e (RN g E n)) : PE X e (RE g E (mVal n)) := h.weak fun σ H Q ⟨F, st, w⟩ => ⟨F, st, w.val_of⟩
theorem rf_box (h : PE X e (RN g E n)) : PE X e (RE g E (mBox n)) := h.weak fun σ H Q ⟨F, st, w⟩ => ⟨F, st, w.box_of⟩
theorem rn_lst (h : PA X es (RA g E m)) : PE X (.List es pos) (RN g E (nLst m)) := (pe_lst h).weak fun σ H Q ⟨F, st, w⟩ =>
  ⟨F, st, (RFw.bind (R := RL g) w).mono fun vs H1 ⟨F1, ds, st1, l1, r1, w⟩ => by
    have hl := Reps.length r1
    split at w
    · rename_i hz
      refine ⟨by rw [← lim_eq, ← hl]; exact hz, fun p hp => w.fresh_end hp ⟨vs, upd_same, r1⟩⟩
    · exact w.2.elim⟩
theorem rn_dct : PE X (.Dict [] [] pos) (RN g E nDct) := pe_dnewK.weak fun σ H Q ⟨F, st, w⟩ p hp => w.fresh_end hp ⟨[], upd_same, .nil⟩
theorem rn_add (ha : PE X a (RE g E ma)) (hb : PE X b (RE g E mb)) : PE X (.BinOp a .Add b pos) (RN g E (nAdd ma mb)) := (pe_op op_cat ha hb).weak fun σ H Q ⟨F, st, w⟩ =>
  ⟨F, st, (RFw.bind (R := RH g) w).mono fun v H1 ⟨F1, h1, st1, l1, r1, w⟩ =>
    ⟨F1, st1, (RFw.bind (R := RH g) w).mono fun u H2 ⟨F2, h2, st2, l2, r2, w⟩ => by
      obtain ⟨x, rx, w⟩ := w.look_bind (RepH.lk l2 r1)
      obtain ⟨y, ry, w⟩ := w.look_bind r2
      cases x <;> first | exact w.2.elim | skip
      cases y <;> first | exact w.2.elim | skip
      dsimp only at w
      split at w
      · rename_i hz
        obtain ⟨a1, vs, rfl, h1, q1⟩ := rx.lst
        obtain ⟨a2, us, rfl, h2, q2⟩ := ry.lst
        exact ⟨a1, a2, vs, us, rfl, rfl, h1, h2, by rw [← lim_eq, ← q1.length, ← q2.length]; exact hz, fun p hp => w.fresh_end hp ⟨_, upd_same, q1.append q2⟩⟩
      · exact w.2.elim⟩⟩

/-! ### statements keep no temporaries -/
def Fm.clr (F : Fm) : Fm := { F with tm := fun _ => none }
theorem FrOk.clr {K : PySem.W.Frag} {ca : CA} (ok : FrOk K ca F st σ H) : LkS F H F.clr H ∧ FrOk K ca F.clr (clr st) σ H := by
  have hs : Sub (hide F.W H) (hide F.clr.W H) := hide_le fun b w => by
    rcases w with w | w | w | ⟨k, w⟩
    · exact .inl w
    · exact .inr (.inl w)
    · exact .inr (.inr (.inl w))
    · cases w
  have tp : ∀ {b x}, Top K ca F.ρ (hide F.W H) H b x → Top K ca F.ρ (hide F.clr.W H) H b x := fun t => t.mono hs (List.prefix_refl _) (fun u h => h)
  exact ⟨⟨rfl, rfl, rfl, List.prefix_refl _, hs⟩, ok.len, fun i d h => let ⟨v, e1, r⟩ := ok.val i d h; ⟨v, e1, r.mono hs (List.prefix_refl _)⟩, fun i x h => let ⟨a, e1, e2, t⟩ := ok.own i x h; ⟨a, e1, e2, tp t⟩,
    fun k b q => (by cases q), fun j a h => let ⟨x, e1, t⟩ := ok.box j a h; ⟨x, e1, tp t⟩, ok.boxn, ok.nd, ok.ownI, fun i k b q => (by cases q), fun i k b _ q => (by cases q), ok.ownF, fun k b q => (by cases q), ok.bF, ok.mono, ok.pre0, ok.new0, ok.dom, ok.tab, ok.slf⟩
theorem rs_own {i : Nat} {x : Str} {pos' : Pos} (hN : X.N.Nodup) (hi : X.N[i]? = some x) (hx : Loc X.env.scope x) (he : PE X e (RN g E n)) (hs : swapsWith e (some (.Name x pos')) pos.line X.env = pure false) (hf : X.fn x = true ∨ X.env.scope.names.lookup x = some .local) :
    PS X (.Assign [.Name x pos'] e pos) (RS g E (sOwn i n)) := (ps_set hN hi hx he hs hf).weak fun D σ H ⟨F, st, h⟩ =>
  ⟨F, st, (RSw.m_bind (R := RNr) h).mono fun v H1 ⟨F1, j, st1, l, ⟨a, ev, r⟩, ok, h⟩ => by
    subst ev
    cases q : st1.tm[j]? with
    | none => simp only [q] at h; exact h.elim
    | some o =>
      simp only [q] at h
      split at h
      · rename_i i0
        obtain ⟨F2, l2, ok2, _⟩ := ok.popO i i0 r q
        obtain ⟨l3, ok3⟩ := ok2.clr
        exact h _ _ H1 (l2.trans l3) ok3
      · exact h.elim⟩
end
end Rf

set_option Elab.async false
set_option linter.all false
set_option maxRecDepth 100000
/-! Rf, part M: what changes in place. -/
namespace Rf
open PySem L2 PyProof.Rows

/-- the content behind a handle, written -/
def wr (h : Hd) (d : D) (s : Stt) : Option Stt := match h with
  | .own i => (match s.σ[i]? with
    | some (.own _) => some { s with σ := s.σ.set i (.own d) }
    | _ => none)
  | .d (.box j) => if j < s.hs.length then some { s with hs := s.hs.set j d } else none
  | _ => none
def mWr (h : Hd) (d : D) : M Unit := fun s => match wr h d s with
  | some s' => .ok () s'
  | none => .bad
/-- o.m(..): a method that changes o in place -/
def mMut (ty : D → Bool) (op : D → List D → Option (D × D)) (m : M Hd) (ms : M (List D)) : M Hd := bnd m fun h => bnd (look h) fun d0 => if ty d0 = true then bnd ms fun ds => bnd (look h) fun d => bnd (opt (op d ds)) fun p => bnd (mWr h p.1) fun _ => ret (.d p.2) else bad
def isLst : D → Bool
  | .lst _ => true
  | _ => false
def appD : D → List D → Option (D × D)
  | .lst xs, [y] => if xs.length < lim then some (.lst (xs ++ [y]), .non) else none
  | _, _ => none
def setItD (d i v : D) : Option D := match d with
  | .lst xs => (match i with
    | .int k => (match ixN xs.length k with
      | some j => some (.lst (xs.set j v))
      | none => none)
    | _ => none)
  | .dct kvs => if (keyD i).isSome ∧ kvs.length < lim then some (.dct (putD kvs i v)) else none
  | _ => none
def setF (f : Str) (v : D) : List (Str × D) → List (Str × D)
  | [] => [(f, v)]
  | (g, x) :: r => if g = f then (g, v) :: r else (g, x) :: setF f v r
/-- o[i] = v -/
def sPut (mo mi mv : M Hd) : MS := sM mv fun hv => sM (toD false hv) fun v => sM mo fun ho => sM mi fun hi => sM (look hi) fun i => sM (look ho) fun d => sM (opt (setItD d i v)) fun d' => sM (mWr ho d') fun _ s => .nx s
/-- o.f = v -/
def sFldS (t : Gd) (f : Str) (mo mv : M Hd) : MS := sM mv fun hv => sM (toD false hv) fun v => sM mo fun ho => sM (look ho) fun d => (match d with
  | .ins c fs => if t.okF c f = true ∧ fs.length < 1000 then sM (mWr ho (.ins c (setF f v fs))) fun _ s => .nx s else fun _ => .bad
  | _ => fun _ => .bad)
/-- x op= v, by values -/
def sAug (i : Nat) (op : D → D → Option D) (m : M Hd) : MS := sM (mVar i) fun h => sM m fun k => sM (look h) fun x => sM (look k) fun y => sM (opt (op x y)) fun z s => .nx (setS i z s)
/-- x += v, x a list that the slot alone holds -/
def sExt (i : Nat) (m : M Hd) : MS := sM m fun k => sM (look k) fun y s => (match s.σ[i]? with
  | some (.own (.lst xs)) => (match y with
    | .lst ys => if xs.length + ys.length ≤ lim then .nx { s with σ := s.σ.set i (.own (.lst (xs ++ ys))) } else .bad
    | _ => .bad)
  | _ => .bad)
/-- o[i] op= v -/
def sAugI (op : D → D → Option D) (mo mi mv : M Hd) : MS := sM mo fun ho => sM mi fun hi => sM (look ho) fun d => sM (look hi) fun i => sM (opt (itemD d i)) fun x => sM mv fun hv => sM (look hv) fun y => sM (opt (op x y)) fun z => sM (look ho) fun d' => sM (opt (setItD d' i z)) fun e => sM (mWr ho e) fun _ s => .nx s
/-- o.f op= v -/
def sAugF (t : Gd) (op : D → D → Option D) (f : Str) (mo mv : M Hd) : MS := sM mo fun ho => sM (look ho) fun d => sM (opt (fldD f d)) fun p => if t.okF p.1 f = true then sM mv fun hv => sM (look hv) fun y => sM (opt (op p.2 y)) fun z => sM (look ho) fun e => (match e with
  | .ins c fs => if c = p.1 ∧ fs.length < 1000 then sM (mWr ho (.ins c (setF f z fs))) fun _ s => .nx s else fun _ => .bad
  | _ => fun _ => .bad) else fun _ => .bad

section
variable {K : PySem.W.Frag} {ca : CA} {F : Fm} {st st' : Stt} {σ : L2.St} {H H' : Hp} {v : V} {d d' : D}
theorem hide_upd {W : Addr → Prop} {a : Addr} {o : HO} (w : W a) : hide W (L2.upd H a o) = hide W H := by
  funext b
  unfold hide
  by_cases h : W b
  · simp [h]
  · have : b ≠ a := fun z => h (by rw [z]; exact w)
    simp [h, upd_ne this]
/-- one thing of the frame's own is written -/
theorem FrOk.wr (ok : FrOk K ca F st σ H) {h : Hd} (r : RepH K ca F σ H h v) (c : cont h st = some d) (w : wr h d' st = some st') :
    ∃ a, v = .ref a ∧ F.W a ∧ Top K ca F.ρ (hide F.W H) H a d ∧ ∀ o', Top K ca F.ρ (hide F.W H) (L2.upd H a o') a d' → Lk F H F (L2.upd H a o') ∧ FrOk K ca F st' σ (L2.upd H a o') := by
  have lk : ∀ {a} (o' : HO), F.W a → Lk F H F (L2.upd H a o') := fun o' wa => ⟨⟨rfl, rfl, rfl, List.prefix_refl _, by rw [hide_upd wa]; exact Sub.refl _⟩, fun _ _ h => h⟩
  have kp : ∀ {a b : Addr} {o' : HO} {x : D}, b ≠ a → Top K ca F.ρ (hide F.W H) H b x → F.W a → Top K ca F.ρ (hide F.W (L2.upd H a o')) (L2.upd H a o') b x := fun {a b o' x} n t wa => by
    rw [hide_upd wa]
    exact t.mono (Sub.refl _) (List.prefix_refl _) fun u q => by rw [upd_ne n]; exact q
  cases h with
  | d x =>
    cases x <;> simp only [Rf.wr, reduceCtorEq] at w
    rename_i j
    split at w
    · rename_i hj
      cases w
      cases r with
      | box e =>
        rename_i a
        have wa : F.W a := .inr (.inl (List.mem_of_getElem? e))
        obtain ⟨o, e1, t⟩ := ok.box j a e
        simp only [cont, unbox] at c
        rw [c] at e1; cases e1
        refine ⟨a, rfl, wa, t, fun o' t' => ⟨lk o' wa, ok.len, fun i x q => ?_, fun i x q => ?_, fun k b q => ?_, fun i b q => ?_, ?_, ok.nd, ok.ownI, ok.tmI, ok.ownT, fun i b q => ?_, ok.tmF, ok.bF, fun b u q n nt => ?_, ok.pre0, ok.new0, fun b h => dom_upd (ok.dom b h), let ⟨_, e1, e2, e3⟩ := t.nt; tabs_upd ok.tab e1 e2 e3, ok.slf⟩⟩
        · rw [hide_upd wa]; exact ok.val i x q
        · obtain ⟨b, q1, q2, q3⟩ := ok.own i x q
          refine ⟨b, q1, q2, kp (fun z => ?_) q3 wa⟩
          rw [z] at q1
          exact (ok.ownF i a q1).2.1 (List.mem_of_getElem? e)
        · obtain ⟨x, q1, q2⟩ := ok.tm k b q
          refine ⟨x, q1, kp (fun z => ?_) q2 wa⟩
          rw [z] at q
          exact (ok.tmF k a q).2 (List.mem_of_getElem? e)
        · by_cases hi : i = j
          · subst hi
            rw [e] at q; cases q
            exact ⟨d', by show (st.hs.set i d')[i]? = some d'; rw [List.getElem?_set_self hj], by rw [hide_upd wa]; exact t'⟩
          · obtain ⟨x, q1, q2⟩ := ok.box i b q
            refine ⟨x, by show (st.hs.set j d')[i]? = some x; rw [List.getElem?_set_ne (Ne.symm hi)]; exact q1, kp (fun z => hi ?_) q2 wa⟩
            rw [z] at q
            exact (List.getElem?_inj (List.getElem?_eq_some_iff.mp q).1 ok.nd).mp (by rw [q, e])
        · show F.ρ.length = (st.hs.set j d').length
          rw [List.length_set]; exact ok.boxn
        · obtain ⟨q1, q2, q3⟩ := ok.ownF i b q
          refine ⟨q1, q2, ?_⟩
          rw [upd_ne (fun z => q2 (by rw [z]; exact List.mem_of_getElem? e))]; exact q3
        · rw [upd_ne (fun z => n (by rw [z]; exact List.mem_of_getElem? e))]
          exact ok.mono b u q n nt
    · cases w
  | own j =>
    simp only [Rf.wr] at w
    split at w
    · rename_i o0 e0
      cases w
      obtain ⟨a, e1, e2, t⟩ := ok.own j _ e0
      have r : σ[j]? = some (some v) := r
      rw [e2] at r; cases r
      simp only [cont, e0, Option.some.injEq] at c
      subst c
      have wa : F.W a := .inr (.inr (.inl ⟨j, e1⟩))
      obtain ⟨f1, f2, f3⟩ := ok.ownF j a e1
      have hj : j < σ.length := (List.getElem?_eq_some_iff.mp e2).1
      refine ⟨a, rfl, wa, t, fun o' t' => ⟨lk o' wa, by simpa using ok.len, fun i x q => ?_, fun i x q => ?_, fun k b q => ?_, fun i b q => ?_, ok.boxn, ok.nd, ok.ownI, ok.tmI, ok.ownT, fun i b q => ?_, ok.tmF, ok.bF, fun b u q n nt => ?_, ok.pre0, ok.new0, fun b h => dom_upd (ok.dom b h), let ⟨_, e1, e2, e3⟩ := t.nt; tabs_upd ok.tab e1 e2 e3, fun x p e q => by
        rcases Sl_set (j := 0) q with ⟨z, _⟩ | ⟨hj, z⟩
        · subst z; exact ok.slf x _ e e0
        · exact ok.slf x p e z⟩⟩
      · have q : (st.σ.set j (.own d'))[i]? = some (.val x) := q
        rcases Sl_set q with ⟨_, q⟩ | ⟨_, q⟩
        · cases q
        · rw [hide_upd wa]; exact ok.val i x q
      · have q : (st.σ.set j (.own d'))[i]? = some (.own x) := q
        rcases Sl_set q with ⟨e, q⟩ | ⟨hj', q⟩
        · cases q
          exact ⟨a, by rw [e]; exact e1, by rw [e]; exact e2, by rw [hide_upd wa]; exact t'⟩
        · obtain ⟨b, q1, q2, q3⟩ := ok.own i x q
          exact ⟨b, q1, q2, kp (fun z => hj' (by rw [z] at q1; exact ok.ownI i j a q1 e1)) q3 wa⟩
      · obtain ⟨x, q1, q2⟩ := ok.tm k b q
        exact ⟨x, q1, kp (fun z => by rw [z] at q; exact ok.ownT j k a e1 q) q2 wa⟩
      · obtain ⟨x, q1, q2⟩ := ok.box i b q
        exact ⟨x, q1, kp (fun z => f2 (by rw [← z]; exact List.mem_of_getElem? q)) q2 wa⟩
      · obtain ⟨q1, q2, q3⟩ := ok.ownF i b q
        refine ⟨q1, q2, ?_⟩
        by_cases z : b = a
        · rw [z]; exact t'.mu
        · rw [upd_ne z]; exact q3
      · rw [upd_ne (fun z => by rw [z, f1] at q; cases q)]
        exact ok.mono b u q n nt
    · cases w
theorem putF_repF {ρ : List Addr} {f : Str} (r : Rep K ca ρ H d v) : ∀ {fs : List (Str × D)} {vs : List (Str × V)}, RepF K ca ρ H fs vs → RepF K ca ρ H (setF f d fs) (putF f v vs)
  | _, _, .nil => .cons r .nil
  | _, _, .cons (f := n) h t => by
    unfold setF putF
    by_cases e : n = f
    · rw [if_pos e, if_pos e]; exact .cons r t
    · rw [if_neg e, if_neg e]; exact .cons h (putF_repF r t)
theorem Top.inner {Hh : Hp} {a : Addr} {o : D} {ρ : List Addr} (h : Top K ca ρ Hh H a o) : Top K ca ρ Hh H a o := h
end

/-! ### methods -/
section
variable {g : G} {X : Cx} {E : L2.WX} {F : Fm} {st : Stt} {σ : L2.St} {H : Hp}
/-- a method's rule and its content -/
def MutOk (g : G) (op : D → List D → Option (D × D)) (r : V → List V → Hp → VK → Prop) : Prop := ∀ {F : Fm} {H : Hp} {a : Addr} {d d' z : D} {ds : List D} {us : List V} {Q : VK}, F.W a → Top g.K g.ca F.ρ (hide F.W H) H a d → Reps g.K g.ca F.ρ (hide F.W H) ds us → op d ds = some (d', z) →
  (∀ o' w, Top g.K g.ca F.ρ (hide F.W H) (L2.upd H a o') a d' → Rep g.K g.ca F.ρ (hide F.W H) z w → Q w (L2.upd H a o')) → r (.ref a) us H Q
theorem RFw.wr_bind {α' β' : Type} {R' : Rl α' β'} {Q : β' → Hp → Prop} {h : Hd} {v : V} {d d' : D} {k : Unit → M α'} (w : RFw g R' E (bnd (mWr h d') k) F st σ H Q) (r : RepH g.K g.ca F σ H h v) (c : cont h st = some d) :
    ∃ a, v = .ref a ∧ F.W a ∧ Top g.K g.ca F.ρ (hide F.W H) H a d ∧ ∃ st', ∀ o', Top g.K g.ca F.ρ (hide F.W H) (L2.upd H a o') a d' → Lk F H F (L2.upd H a o') ∧ RFw g R' E (k ()) F st' σ (L2.upd H a o') Q := by
  obtain ⟨ok, w⟩ := w
  unfold bnd mWr at w
  cases e : Rf.wr h d' st with
  | none => rw [e] at w; exact w.elim
  | some st' =>
    rw [e] at w
    obtain ⟨a, ev, wa, t, k2⟩ := ok.wr r c e
    exact ⟨a, ev, wa, t, st', fun o' t' => ⟨(k2 o' t').1, (k2 o' t').2, Post.lk (k2 o' t').1 w⟩⟩
theorem RFw.look_bind' {α' β' : Type} {R' : Rl α' β'} {Q : β' → Hp → Prop} {h : Hd} {v : V} {k : D → M α'} (w : RFw g R' E (bnd (look h) k) F st σ H Q) (r : RepH g.K g.ca F σ H h v) :
    ∃ d, cont h st = some d ∧ RepC g.K g.ca F.ρ (hide F.W H) H d v ∧ RFw g R' E (k d) F st σ H Q := by
  obtain ⟨ok, w⟩ := w
  unfold bnd look at w
  cases e : cont h st with
  | none => rw [e] at w; exact w.elim
  | some d =>
    rw [e] at w
    exact ⟨d, rfl, cont_rep ok r e, ok, w⟩
variable {e o : Expr} {es : List Expr} {m : M Hd} {ms : M (List D)} {name : Str} {apos cpos : Pos} {id : String} {r : V → List V → Hp → VK → Prop} {op : D → List D → Option (D × D)}
theorem rf_mutL (hK : X.K = g.K) (slot : Slot "list" name id) (hty : typeOf (.builtin id) = pure (.type "method_descriptor")) (hm : MtR X id r) (hr : MutOk g op r) (ho : PE X o (RE g E m)) (ha : PA X (e :: es) (RA g E ms))
    (hbase : attributeBase o name X.env (eval o X.env) = eval o X.env)
    (hfew : ((backTo cpos (starEach (e :: es) X.env)).all (fun x => !x.1) && (backToKw cpos (keywordEach [] X.env)).all (fun x => x.1.isSome)
      && decide ((e :: es).length + ([] : List Keyword).length + (if ([] : List Keyword).isEmpty then 0 else 1) < 30)) = true)
    (hline : (apos.endLine == cpos.line) = true) (hs : starEach (e :: es) X.env = (false, eval e X.env) :: starEach es X.env) (hplain : (backTo cpos (starEach es X.env)).any (·.1) = false) :
    PE X (.Call (.Attribute o name apos) (e :: es) [] cpos) (RE g E (mMut isLst op m ms)) := (pe_bm PySem.F.plainAttrs_list slot hty hm ho ha hbase hfew hline hs hplain).weak fun σ H Q ⟨F, st, w⟩ =>
  ⟨F, st, (RFw.bind (R := RH g) w).mono fun v H1 ⟨F1, h1, st1, l1, r1, w⟩ => by
    obtain ⟨d0, rc, w⟩ := w.look_bind r1
    split at w
    · rename_i hd
      cases d0 <;> simp only [isLst, Bool.false_eq_true] at hd
      obtain ⟨a0, vs0, rfl, h0, _⟩ := rc.lst
      refine ⟨.inl ⟨rfl, vs0, by rw [hK]; exact SqL.of h0⟩, F1, st1, (RFw.bind (R := RL g) w).mono fun us H2 ⟨F2, ds, st2, l2, r2, w⟩ => ?_⟩
      obtain ⟨d, c, rc, w⟩ := w.look_bind' (RepH.lk l2 r1)
      obtain ⟨⟨d', z⟩, ez, w⟩ := w.opt_bind
      obtain ⟨a, ea, wa, t, st', k⟩ := w.wr_bind (RepH.lk l2 r1) c
      cases ea
      exact hr wa t r2 ez fun o' wv t' rz => by
        obtain ⟨lk, w'⟩ := k o' t'
        exact w'.here (by show Rep _ _ _ _ _ _; rw [hide_upd wa]; exact rz)
    · exact w.2.elim⟩
theorem mo_app : MutOk g appD rAppend := by
  intro F H a d d' z ds us Q wa t r e q
  cases d <;> simp only [appD, reduceCtorEq] at e
  cases r with
  | nil => simp at e
  | cons r1 r2 =>
    cases r2 with
    | cons _ _ => simp at e
    | nil =>
      simp only at e
      split at e
      · rename_i hl
        simp only [Option.some.injEq, Prod.mk.injEq] at e
        obtain ⟨rfl, rfl⟩ := e
        obtain ⟨vs, h1, q1⟩ := t
        exact ⟨a, vs, _, rfl, rfl, h1, by rw [← lim_eq, ← q1.length]; exact hl, q _ _ ⟨_, upd_same, q1.append (.cons r1 .nil)⟩ .non⟩
      · cases e
theorem rf_append (hK : X.K = g.K) (ho : PE X o (RE g E m)) (ha : PA X (e :: es) (RA g E ms)) (hbase : attributeBase o "append" X.env (eval o X.env) = eval o X.env)
    (hfew : ((backTo cpos (starEach (e :: es) X.env)).all (fun x => !x.1) && (backToKw cpos (keywordEach [] X.env)).all (fun x => x.1.isSome)
      && decide ((e :: es).length + ([] : List Keyword).length + (if ([] : List Keyword).isEmpty then 0 else 1) < 30)) = true)
    (hline : (apos.endLine == cpos.line) = true) (hs : starEach (e :: es) X.env = (false, eval e X.env) :: starEach es X.env) (hplain : (backTo cpos (starEach es X.env)).any (·.1) = false) :
    PE X (.Call (.Attribute o "append" apos) (e :: es) [] cpos) (RE g E (mMut isLst appD m ms)) := rf_mutL hK PySem.F.slot_list_append PySem.F.type_list_append mt_append mo_app ho ha hbase hfew hline hs hplain
end
end Rf

set_option Elab.async false
set_option linter.all false
set_option maxRecDepth 100000
/-! Rf, part O: stores. -/
namespace Rf
open PySem L2 PyProof.Rows

section
variable {g : G} {E : L2.WX} {F : Fm} {st : Stt} {σ : L2.St} {H : Hp} {D0 : Ends} {h : Hd} {v : V}
theorem RSw.look {k : D → MS} (w : RSw g E (sM (look h) k) F st σ H D0) (r : RepH g.K g.ca F σ H h v) : ∃ d, cont h st = some d ∧ RepC g.K g.ca F.ρ (hide F.W H) H d v ∧ RSw g E (k d) F st σ H D0 := by
  obtain ⟨ok, w⟩ := w
  unfold sM Rf.look at w
  cases e : cont h st with
  | none => rw [e] at w; exact w.elim
  | some d =>
    rw [e] at w
    exact ⟨d, rfl, cont_rep ok r e, ok, w⟩
theorem RSw.opt {α : Type} {o : Option α} {k : α → MS} (w : RSw g E (sM (opt o) k) F st σ H D0) : ∃ a, o = some a ∧ RSw g E (k a) F st σ H D0 := by
  obtain ⟨ok, w⟩ := w
  cases o with
  | none => exact w.elim
  | some a => exact ⟨a, rfl, ok, w⟩
theorem RSw.toD {k : D → MS} (w : RSw g E (sM (toD false h) k) F st σ H D0) (r : RepH g.K g.ca F σ H h v) : ∃ F' st' d, Lk F H F' H ∧ Rep g.K g.ca F'.ρ (hide F'.W H) d v ∧ RSw g E (k d) F' st' σ H D0 := by
  obtain ⟨ok, w⟩ := w
  unfold sM at w
  cases e : Rf.toD false h st with
  | ok d st' =>
    rw [e] at w
    obtain ⟨F', l, ok', r'⟩ := toD_ok ok r e
    exact ⟨F', st', d, l, r', ok', PostS.lk l.s w⟩
  | exc c fs s => cases h <;> simp only [Rf.toD, reduceCtorEq] at e <;> (repeat' split at e) <;> simp at e
  | bad => rw [e] at w; exact w.elim
theorem RSw.wr {d d' : D} {k : Unit → MS} (w : RSw g E (sM (mWr h d') k) F st σ H D0) (r : RepH g.K g.ca F σ H h v) (c : cont h st = some d) :
    ∃ a, v = .ref a ∧ F.W a ∧ Top g.K g.ca F.ρ (hide F.W H) H a d ∧ ∃ st', ∀ o', Top g.K g.ca F.ρ (hide F.W H) (L2.upd H a o') a d' → Lk F H F (L2.upd H a o') ∧ RSw g E (k ()) F st' σ (L2.upd H a o') D0 := by
  obtain ⟨ok, w⟩ := w
  unfold sM mWr at w
  cases e : Rf.wr h d' st with
  | none => rw [e] at w; exact w.elim
  | some st' =>
    rw [e] at w
    obtain ⟨a, ev, wa, t, k2⟩ := ok.wr r c e
    exact ⟨a, ev, wa, t, st', fun o' t' => ⟨(k2 o' t').1, (k2 o' t').2, PostS.lk (k2 o' t').1.s w⟩⟩
theorem RSw.nx (w : RSw g E (fun s => .nx s) F st σ H D0) : D0.nx σ H := w.2 F σ H LkS.refl w.1
end

/-! ### o[i] = v -/
def rSetK : V → V → V → Hp → (Hp → Prop) → Prop := fun o i v H Q => ∃ a H', o = .ref a ∧ DPut H a i v H' ∧ Q H'
theorem set_dK {X : Cx} (hu : X.A.units + 1 < cLine) : PSet X rSetK := by
  intro pins s σ H o i v ov iv u Q I ro ri rv h
  obtain ⟨a, H', rfl, g, q⟩ := h
  cases ro
  exact d_setItem hu I g ri rv fun s4 I4 => ⟨H', I4, q⟩
def rSetAll : V → V → V → Hp → (Hp → Prop) → Prop := fun o i v H Q => rSetL o i v H Q ∨ rSetK o i v H Q
theorem set_all {X : Cx} (hu : X.A.units + 1 < cLine) : PSet X rSetAll := by
  intro pins s σ H o i v ov iv u Q I ro ri rv h
  rcases h with h | h
  · exact set_list pins s σ H o i v ov iv u Q I ro ri rv h
  · exact set_dK hu pins s σ H o i v ov iv u Q I ro ri rv h
section
variable {g : G} {X : Cx} {E : L2.WX} {F : Fm} {st : Stt} {σ : L2.St} {H : Hp}
theorem setIt_ok {a : Addr} {d i z d' : D} {u w : V} {Q : Hp → Prop} (t : Top g.K g.ca F.ρ (hide F.W H) H a d) (ri : RepC g.K g.ca F.ρ (hide F.W H) H i u) (rz : Rep g.K g.ca F.ρ (hide F.W H) z w) (e : setItD d i z = some d')
    (q : ∀ o', Top g.K g.ca F.ρ (hide F.W H) (L2.upd H a o') a d' → Q (L2.upd H a o')) : rSetAll (.ref a) u w H Q := by
  cases d <;> simp only [setItD, reduceCtorEq] at e
  · cases i <;> simp only [reduceCtorEq] at e
    split at e
    · rename_i j hj
      cases e
      cases ri.int
      obtain ⟨vs, h1, r⟩ := t
      exact .inl ⟨a, vs, _, j, rfl, rfl, h1, by rw [← r.length]; exact hj, q _ ⟨_, upd_same, Reps.set rz j r⟩⟩
    · cases e
  · split at e
    · rename_i hc
      cases e
      obtain ⟨k, hk⟩ := Option.isSome_iff_exists.mp hc.1
      obtain ⟨ks, h1, r⟩ := t
      have ev := kV_key ri hk
      subst ev
      refine .inr ⟨a, _, rfl, DPut.k h1 (by rw [← lim_eq, ← r.length]; exact hc.2), q _ ⟨_, upd_same, ?_⟩⟩
      exact r.put hk rz
    · cases e
variable {o i value : Expr} {mo mi mv : M Hd} {pos pos' : Pos}
theorem rs_put (hu : X.A.units + 1 < cLine) (hv : PE X value (RE g E mv)) (ho : PE X o (RE g E mo)) (hi : PE X i (RE g E mi)) (hs : swapsWithSole [.Subscript o i pos'] value pos.line X.env = pure false) (hw : swappedStores [.Subscript o i pos'] value X.env = pure none)
    (h1 : (assignEach [.Subscript o i pos'] X.env).map (·.2) = [assign (.Subscript o i pos') X.env])
    (ha : ∀ v, assign (.Subscript o i pos') X.env v = (do
      let ov ← holding [v] (eval o X.env)
      let iv ← holding [v, ov] (eval i X.env)
      standAt pos'
      holding [v, ov, iv] (setItem ov iv v)
      release [v, ov, iv] [])) : PS X (.Assign [.Subscript o i pos'] value pos) (RS g E (sPut mo mi mv)) := (ps_asg hv (pg_sub ho hi (set_all hu) ha) hs hw h1).weak fun D σ H ⟨F, st, h⟩ =>
  ⟨F, st, (RSw.m_bind (R := RH g) h).mono fun v H1 ⟨F1, hv, st1, l1, r1, h⟩ => by
    obtain ⟨F2, st2, d, l2, rd, h⟩ := h.toD r1
    refine ⟨F2, st2, (RSw.m_bind (R := RH g) h).mono fun ov H3 ⟨F3, ho, st3, l3, r3, h⟩ => ?_⟩
    refine ⟨F3, st3, (RSw.m_bind (R := RH g) h).mono fun iv H4 ⟨F4, hi, st4, l4, r4, h⟩ => ?_⟩
    obtain ⟨di, ci, ri, h⟩ := h.look r4
    obtain ⟨d0, c0, r0, h⟩ := h.look (RepH.lk l4 r3)
    obtain ⟨d1, e1, h⟩ := h.opt
    obtain ⟨a, ea, wa, t, st5, k⟩ := h.wr (RepH.lk l4 r3) c0
    subst ea
    exact setIt_ok t ri (Rep.lk l4 (Rep.lk l3 rd)) e1 fun o' t' => (k o' t').2.nx⟩
/-! ### o.f = v -/
theorem rs_fld {f : Str} (hK : X.K = g.K) (C : ClsF g) (hv : PE X value (RE g E mv)) (ho : PE X o (RE g E mo)) (hs : swapsWith value (some (.Attribute o f pos')) pos.line X.env = pure false) :
    PS X (.Assign [.Attribute o f pos'] value pos) (RS g E (sFldS g.toGd f mo mv)) := (ps_fld ho hv hs).weak fun D σ H ⟨F, st, h⟩ =>
  ⟨F, st, (RSw.m_bind (R := RH g) h).mono fun v H1 ⟨F1, hv, st1, l1, r1, h⟩ => by
    obtain ⟨F2, st2, d, l2, rd, h⟩ := h.toD r1
    refine ⟨F2, st2, (RSw.m_bind (R := RH g) h).mono fun ov H3 ⟨F3, ho, st3, l3, r3, h⟩ => ?_⟩
    obtain ⟨d0, c0, r0, h⟩ := h.look r3
    cases d0 <;> first | exact h.2.elim | skip
    dsimp only at h
    split at h
    · rename_i c fs hc
      obtain ⟨a, ea, wa, t, st5, k⟩ := h.wr r3 c0
      subst ea
      obtain ⟨dx, vs, h1, r⟩ := t
      obtain ⟨c1, c2⟩ := C.fld _ _ hc.1
      rw [hK]
      exact ⟨a, _, dx, vs, rfl, h1, c1, c2, by rw [← RepF.length r]; exact hc.2, (k _ ⟨dx, _, upd_same, putF_repF (Rep.lk l3 rd) r⟩).2.nx⟩
    · exact h.2.elim⟩
end
end Rf

set_option Elab.async false
set_option linter.all false
set_option maxRecDepth 100000
/-! Rf, part P: augmented stores. -/
namespace Rf
open PySem L2 PyProof.Rows

def addIS : D → D → Option D
  | .int i, .int j => some (.int (i + j))
  | .str x, .str y => if x.length + y.length ≤ lim then some (.str (x ++ y)) else none
  | _, _ => none
/-- x += v, x a list that the slot alone holds, or a box -/
def sExtL (i : Nat) (m : M Hd) : MS := sM (mVar i) fun h => sM m fun k => sM (look k) fun y => sM (look h) fun x => (match x, y with
  | .lst xs, .lst ys => if xs.length + ys.length ≤ lim then sM (mWr h (.lst (xs ++ ys))) fun _ s => .nx s else fun _ => .bad
  | _, _ => fun _ => .bad)
def rGetAll (K : PySem.W.Frag) : V → V → Hp → VK → Prop := fun x y H Q => rIxL K x y H Q ∨ rIxK x y H Q
theorem get_all {X : Cx} (hu : X.A.units + 1 < cLine) : PGet X (rGetAll X.K) := by
  intro pins s σ H x y v u Q I rx ry h
  rcases h with ⟨p, xs, i, z, rfl, rfl, hq, he, q⟩ | ⟨a, w, rfl, d, q⟩
  · cases rx
    obtain ⟨t, rfl⟩ := ry
    obtain ⟨its, r, pl, hz⟩ := I.list hq
    obtain ⟨j, h1, h2, h3, h4, h5⟩ := atI_get he
    obtain ⟨w, ew, rw'⟩ := r.get h2
    have hl := r.length
    have hn := line63
    have fin : EP X pins σ Q w s := ⟨z, H, I, rw', q⟩
    by_cases h0 : 0 ≤ i
    · have hj : i.toNat = j := by
        rw [seqIndex_of h0 h5] at h1
        exact Option.some.inj h1
      exact wpAny_getItem_list pl.isList h0 (by omega) (by rw [hj]; simpa using ew) fin
    · have hj : (i + (its.toArray.size : Int)).toNat = j := by
        rw [seqIndex_neg (by omega) h4] at h1
        rw [List.size_toArray, ← hl]
        exact Option.some.inj h1
      exact wpAny_getItem_list_neg pl.isList (by omega) (by rw [List.size_toArray] <;> omega) (by omega) (by rw [hj]; simpa using ew) fin
  · cases rx
    exact d_getItem hu I d ry fun w' s3 I3 rw' => ⟨w, H, I3, rw', q⟩
def rAddIS : V → V → Hp → VK → Prop := fun x y H Q => rI0 (fun i j => .int (i + j)) x y H Q ∨ ∃ i j, x = .str i ∧ y = .str j ∧ i.length + j.length ≤ sizeLine ∧ Q (.str (i ++ j)) H
section
variable {g : G} {X : Cx} {E : L2.WX} {F : Fm} {st : Stt} {σ : L2.St} {H : Hp}
theorem pip_addIS : OpR X (inplaceOp .Add) rAddIS := iop_add.or iop_add_str
theorem ok_addIS : OpOk g addIS rAddIS := by
  intro F st σ H x y z v u Q ok rx ry e q
  cases x <;> simp only [addIS, reduceCtorEq] at e
  · cases y <;> simp only [reduceCtorEq] at e
    cases e; cases rx.int; cases ry.int
    exact .inl ⟨_, _, rfl, rfl, q _ _ Lk.refl ok (.int _)⟩
  · cases y <;> simp only [reduceCtorEq] at e
    split at e
    · rename_i hl
      cases e; cases rx.str; cases ry.str
      exact .inr ⟨_, _, rfl, rfl, by rw [← lim_eq]; exact hl, q _ _ Lk.refl ok (.str _)⟩
    · cases e
theorem RFw.var_end {i : Nat} {Q : VK} (h : RFw g (RH g) E (mVar i) F st σ H Q) : ∃ v, σ[i]? = some (some v) ∧ Q v H := by
  obtain ⟨ok, h⟩ := h
  unfold mVar at h
  cases q : st.σ[i]? with
  | none => rw [q] at h; exact h.elim
  | some s =>
    rw [q] at h
    cases s with
    | no => exact h.elim
    | val d =>
      obtain ⟨v, e, r⟩ := ok.val i d q
      exact ⟨v, e, h F v H Lk.refl ok r⟩
    | own o =>
      obtain ⟨a, _, e, _⟩ := ok.own i o q
      exact ⟨_, e, h F _ H Lk.refl ok e⟩
variable {e o i value : Expr} {mo mi mv m : M Hd} {pos pos' tpos : Pos} {op : Operator} {f : D → D → Option D} {r : V → V → Hp → VK → Prop}
theorem rs_aug {i : Nat} {x : Str} (hN : X.N.Nodup) (hi : X.N[i]? = some x) (hx : Loc X.env.scope x) (he : PE X e (RE g E m)) (ho : OpR X (inplaceOp op) r) (hr : OpOk g f r) (hf : X.fn x = true ∨ X.env.scope.names.lookup x = some .local) :
    PS X (.AugAssign (.Name x pos') op e pos) (RS g E (sAug i f m)) := (ps_aug hN hi hx he ho hf).weak fun D0 σ H ⟨F, st, h⟩ => by
  obtain ⟨v, ev, F1, h1, st1, l1, r1, h⟩ := (RSw.m_bind (R := RH g) h).var_end
  refine ⟨v, ev, F1, st1, (RSw.m_bind (R := RH g) h).mono fun u H2 ⟨F2, h2, st2, l2, r2, h⟩ => ?_⟩
  obtain ⟨dx, _, rx, h⟩ := h.look (RepH.lk l2 r1)
  obtain ⟨dy, _, ry, h⟩ := h.look r2
  obtain ⟨z, ez, h⟩ := h.opt
  exact hr h.1 rx ry ez fun w H' l ok q => h.2 F2 _ H' l.s (ok.setv i q)
theorem rs_ext {i : Nat} {x : Str} (hN : X.N.Nodup) (hi : X.N[i]? = some x) (hx : Loc X.env.scope x) (he : PE X e (RE g E m)) (hf : X.fn x = true ∨ X.env.scope.names.lookup x = some .local) :
    PS X (.AugAssign (.Name x pos') .Add e pos) (RS g E (sExtL i m)) := (ps_aug hN hi hx he iop_ext hf).weak fun D0 σ H ⟨F, st, h⟩ => by
  obtain ⟨v, ev, F1, h1, st1, l1, r1, h⟩ := (RSw.m_bind (R := RH g) h).var_end
  refine ⟨v, ev, F1, st1, (RSw.m_bind (R := RH g) h).mono fun u H2 ⟨F2, h2, st2, l2, r2, h⟩ => ?_⟩
  obtain ⟨dy, _, ry, h⟩ := h.look r2
  obtain ⟨dx, cx, rx, h⟩ := h.look (RepH.lk l2 r1)
  cases dx <;> first | exact h.2.elim | skip
  cases dy <;> first | exact h.2.elim | skip
  dsimp only at h
  split at h
  · rename_i hl
    obtain ⟨a, ea, wa, t, st5, k⟩ := h.wr (RepH.lk l2 r1) cx
    subst ea
    obtain ⟨vs, h1, q1⟩ := t
    obtain ⟨b, us, rfl, h2, q2⟩ := ry.lst
    have hs : σ.set i (some (.ref a)) = σ := by
      apply List.ext_getElem?
      intro j
      by_cases hj : j = i
      · subst hj
        rw [ev, List.getElem?_set_self (List.getElem?_eq_some_iff.mp ev).1]
      · rw [List.getElem?_set_ne (Ne.symm hj)]
    refine ⟨a, b, vs, us, rfl, rfl, h1, h2, by rw [← lim_eq, ← q1.length, ← q2.length]; exact hl, ?_⟩
    show D0.nx (σ.set i (some (.ref a))) _
    rw [hs]
    exact (k _ ⟨_, upd_same, q1.append q2⟩).2.nx
  · exact h.2.elim
theorem getIt_ok {x y z : D} {v u : V} {Q : VK} (rx : RepC g.K g.ca F.ρ (hide F.W H) H x v) (ry : RepC g.K g.ca F.ρ (hide F.W H) H y u) (hd : (∃ xs, x = .lst xs) ∨ ∃ kvs, x = .dct kvs) (e : itemD x y = some z)
    (q : ∀ w, Rep g.K g.ca F.ρ (hide F.W H) z w → Q w H) : rGetAll g.K v u H Q := by
  rcases hd with ⟨xs, rfl⟩ | ⟨kvs, rfl⟩
  · cases y <;> simp only [itemD, reduceCtorEq] at e
    obtain ⟨a, vs, rfl, h, r⟩ := rx.lst
    cases ry.int
    obtain ⟨w, e1, rw'⟩ := r.atI e
    exact .inl ⟨a, vs, _, w, rfl, rfl, SqL.of h, e1, q _ rw'⟩
  · simp only [itemD] at e
    split at e
    · rename_i hk
      obtain ⟨k, hk⟩ := Option.isSome_iff_exists.mp hk
      obtain ⟨a, ks, rfl, h, r⟩ := rx.dct
      have ev := kV_key ry hk
      subst ev
      rcases r.look hk with ⟨e1, e2⟩ | ⟨d, w, e1, e2, rw'⟩
      · rw [e2] at e; cases e
      · rw [e2] at e; cases e
        exact .inr ⟨a, w, rfl, by rw [← e1]; exact DGet.kR h, q _ rw'⟩
    · cases e
def isLD : D → Bool
  | .lst _ | .dct _ => true
  | _ => false
theorem isLD_or {x : D} (h : isLD x = true) : (∃ xs, x = .lst xs) ∨ ∃ kvs, x = .dct kvs := by
  cases x <;> simp only [isLD, Bool.false_eq_true] at h
  · exact .inl ⟨_, rfl⟩
  · exact .inr ⟨_, rfl⟩
/-- o[i] op= v -/
def sAugIt (op : D → D → Option D) (mo mi mv : M Hd) : MS := sM mo fun ho => sM mi fun hi => sM (look ho) fun d => if isLD d = true then sM (look hi) fun i => sM (opt (itemD d i)) fun x => sM mv fun hv => sM (look hv) fun y => sM (opt (op x y)) fun z => sM (look ho) fun d' => sM (look hi) fun i' => sM (opt (setItD d' i' z)) fun e => sM (mWr ho e) fun _ s => .nx s else fun _ => .bad
theorem rs_augI (hK : X.K = g.K) (hu : X.A.units + 1 < cLine) (ho : PE X o (RE g E mo)) (hi : PE X i (RE g E mi)) (he : PE X e (RE g E mv)) (hp : OpR X (inplaceOp op) r) (hr : OpOk g f r)
    (ha : ∀ ov iv new, augStore i ov iv new = (do holding [new, ov, iv] (setItem ov iv new); release [new, ov, iv] []; pure .next)) : PS X (.AugAssign (.Subscript o i tpos) op e pos) (RS g E (sAugIt f mo mi mv)) :=
  (ps_augS ho hi (get_all hu) he hp (set_all hu) ha).weak fun D0 σ H ⟨F, st, h⟩ =>
  ⟨F, st, (RSw.m_bind (R := RH g) h).mono fun ov H1 ⟨F1, h1, st1, l1, r1, h⟩ =>
    ⟨F1, st1, (RSw.m_bind (R := RH g) h).mono fun iv H2 ⟨F2, h2, st2, l2, r2, h⟩ => by
      obtain ⟨d, c, rd, h⟩ := h.look (RepH.lk l2 r1)
      split at h
      · rename_i hd
        obtain ⟨di, ci, ri, h⟩ := h.look r2
        obtain ⟨x, ex, h⟩ := h.opt
        rw [hK]
        refine getIt_ok rd ri (isLD_or hd) ex fun w rw' => ?_
        refine ⟨F2, st2, (RSw.m_bind (R := RH g) h).mono fun yv H3 ⟨F3, h3, st3, l3, r3, h⟩ => ?_⟩
        obtain ⟨y, cy, ry, h⟩ := h.look r3
        obtain ⟨z, ez, h⟩ := h.opt
        refine hr h.1 (.inl (Rep.lk l3 rw')) ry ez fun w' H' l ok q => ?_
        have h' : RSw g E _ F3 st3 σ H' D0 := ⟨ok, PostS.lk l.s h.2⟩
        obtain ⟨d', c', rd', h'⟩ := h'.look (RepH.lk l (RepH.lk l3 (RepH.lk l2 r1)))
        obtain ⟨di', ci', ri', h'⟩ := h'.look (RepH.lk l (RepH.lk l3 r2))
        obtain ⟨e1, ee, h'⟩ := h'.opt
        obtain ⟨a, ea, wa, t, st5, k⟩ := h'.wr (RepH.lk l (RepH.lk l3 (RepH.lk l2 r1))) c'
        subst ea
        exact setIt_ok t ri' q ee fun o' t' => (k o' t').2.nx
      · exact h.2.elim⟩⟩
theorem rs_augF {fl : Str} (hK : X.K = g.K) (C : ClsF g) (ho : PE X o (RE g E mo)) (he : PE X value (RE g E mv)) (hp : OpR X (inplaceOp op) r) (hr : OpOk g f r) : PS X (.AugAssign (.Attribute o fl tpos) op value pos) (RS g E (sAugF g.toGd f fl mo mv)) :=
  (ps_fldaug (rd := r) ho he hp).weak fun D0 σ H ⟨F, st, h⟩ =>
  ⟨F, st, (RSw.m_bind (R := RH g) h).mono fun ov H1 ⟨F1, h1, st1, l1, r1, h⟩ => by
    obtain ⟨d, c, rd, h⟩ := h.look r1
    obtain ⟨⟨cc, x⟩, e1, h⟩ := h.opt
    split at h
    · rename_i hc
      cases d <;> simp only [fldD, reduceCtorEq] at e1
      simp only [Option.map_eq_some_iff, Prod.mk.injEq] at e1
      obtain ⟨y, e1, rfl, rfl⟩ := e1
      obtain ⟨a, dx, vs, rfl, h1, rr⟩ := rd.ins
      obtain ⟨w, e2, rw'⟩ := rr.look e1
      obtain ⟨c1, c2⟩ := C.fld _ _ hc
      rw [hK]
      refine ⟨a, _, dx, vs, w, rfl, h1, c1, c2, e2, F1, st1, (RSw.m_bind (R := RH g) h).mono fun yv H2 ⟨F2, h2, st2, l2, r2, h⟩ => ?_⟩
      obtain ⟨y2, cy, ry, h⟩ := h.look r2
      obtain ⟨z, ez, h⟩ := h.opt
      refine hr h.1 (.inl (Rep.lk l2 rw')) ry ez fun w' H' l ok q => ?_
      have h' : RSw g E _ F2 st2 σ H' D0 := ⟨ok, PostS.lk l.s h.2⟩
      obtain ⟨d', c', rd', h'⟩ := h'.look (RepH.lk l (RepH.lk l2 r1))
      cases d' <;> first | exact h'.2.elim | skip
      dsimp only at h'
      split at h'
      · rename_i hcc
        obtain ⟨a', ea, wa, t, st5, k⟩ := h'.wr (RepH.lk l (RepH.lk l2 r1)) c'
        cases ea
        obtain ⟨dx', vs', h3, rr'⟩ := t
        rw [hcc.1] at h3 k
        exact ⟨dx', vs', h3, by rw [← RepF.length rr']; exact hcc.2, (k _ ⟨dx', _, upd_same, putF_repF q rr'⟩).2.nx⟩
      · exact h'.2.elim
    · exact h.2.elim⟩
end
end Rf

set_option Elab.async false
set_option linter.all false
set_option maxRecDepth 100000
/-! Rf, part Q: what is walked, targets, for. -/
namespace Rf
open PySem L2 PyProof.Rows

inductive It where
  | lst (h : Hd) | tup (h : Hd) | rng (lo : Int) (n : Nat) | str (x : Str) | enm (b : Bool) (h : Hd) | zip (b c : Bool) (h k : Hd) | keys (d : D) | vals (d : D) | items (d : D)
def lstOf : D → Option (List D)
  | .lst xs | .frl xs => some xs
  | _ => none
def tupOf : D → Option (List D)
  | .tup xs => some xs
  | _ => none
/-- a tuple's items (true), a list's (false) -/
def sqOf : Bool → D → Option (List D)
  | true => tupOf
  | false => lstOf
def It.at (J : It) (i : Nat) (s : Stt) : Option (Option D) := match J with
  | .lst h => ((cont h s).bind lstOf).map fun xs => xs[i]?
  | .tup h => ((cont h s).bind tupOf).map fun xs => xs[i]?
  | .rng lo n => some (if i < n then some (.int (lo + i)) else none)
  | .str x => some ((x.cps.toList[i]?).map fun c => .str ⟨#[c]⟩)
  | .enm b h => ((cont h s).bind (sqOf b)).map fun xs => (xs[i]?).map fun x => .tup [.int i, x]
  | .zip b c h k => ((cont h s).bind (sqOf b)).bind fun xs => ((cont k s).bind (sqOf c)).map fun ys => (xs[i]?).bind fun x => (ys[i]?).map fun y => .tup [x, y]
  | .keys d => (match d with | .dct kvs => some ((kvs[i]?).map (·.1)) | _ => none)
  | .vals d => (match d with | .dct kvs => some ((kvs[i]?).map (·.2)) | _ => none)
  | .items d => (match d with | .dct kvs => some ((kvs[i]?).map fun p => .tup [p.1, p.2]) | _ => none)
def lenH (h : Hd) (s : Stt) : Nat := match (cont h s).bind seqOf with
  | some xs => xs.length
  | none => 0
def It.len (J : It) (s : Stt) : Nat := match J with
  | .lst h | .tup h | .enm _ h | .zip _ _ h _ => lenH h s
  | .rng _ n => n
  | .str x => x.cps.toList.length
  | .keys d | .vals d | .items d => (match d with | .dct kvs => kvs.length | _ => 0)
def hSlot : Hd → List Nat
  | .own i => [i]
  | _ => []
def It.slots : It → List Nat
  | .lst h | .tup h | .enm _ h => hSlot h
  | .zip _ _ h k => hSlot h ++ hSlot k
  | _ => []
abbrev Tg := D → Stt → Option Stt
def tgName (i : Nat) : Tg := fun d s => some (setS i d s)
def tgsNil : List D → Stt → Option Stt
  | [], s => some s
  | _, _ => none
def tgsCons (t : Tg) (u : List D → Stt → Option Stt) : List D → Stt → Option Stt
  | d :: ds, s => (t d s).bind (u ds)
  | _, _ => none
def tgTup (n : Nat) (u : List D → Stt → Option Stt) : Tg := fun d s => match d with
  | .tup ds => if ds.length = n then u ds s else none
  | _ => none
def forGo (J : It) (t : Tg) (body : MS) : Nat → Nat → MS
  | 0, i => fun s => match J.at i s with
    | some none => .nx s
    | _ => .bad
  | n + 1, i => fun s => match J.at i s with
    | some none => .nx s
    | some (some x) => (match t x s with
      | some s1 => (match body s1 with
        | .nx s' => forGo J t body n (i + 1) s'
        | .ct s' => forGo J t body n (i + 1) s'
        | .bk s' => .nx s'
        | .rt d s' => .rt d s'
        | .exc c fs s' => .exc c fs s'
        | .bad => .bad)
      | none => .bad)
    | none => .bad
def sFor (mi : M It) (t : Tg) (body : MS) : MS := sM mi fun J s => if J.slots.isEmpty = true then forGo J t body (J.len s) 0 s else .bad
/-- an expression walked: by its handle (a comprehension), by its value (a for) -/
def iH (m : M Hd) : M It := bnd m fun h => bnd (look h) fun d => match d with
  | .lst _ | .frl _ => ret (.lst h)
  | .tup _ => ret (.tup h)
  | .str x => ret (.str x)
  | _ => bad
def mFrz (m : M Hd) : M Hd := bnd m fun h => bnd (toD false h) fun d => ret (.d d)
def smallI (i : Int) : Bool := decide (-4611686018427387904 ≤ i ∧ i < 4611686018427387904)
def iR1 (m : M (List D)) : M It := bnd m fun ds => match ds with
  | [.int j] => if smallI j = true then ret (.rng 0 j.toNat) else bad
  | _ => bad
def iR2 (m : M (List D)) : M It := bnd m fun ds => match ds with
  | [.int i, .int j] => if smallI i = true ∧ smallI j = true then ret (.rng i (j - i).toNat) else bad
  | _ => bad

section
variable (g : G)
def ItS (J : It) (J' : L2.It) (F : Fm) (σ : L2.St) (H : Hp) : Prop := ∀ F' st' σ' H', LkS F H F' H' → FrOk g.K g.ca F' st' σ' H' → (∀ i, i ∈ J.slots → σ'[i]? = σ[i]?) → ∀ i,
  (∀ x, J.at i st' = some (some x) → J'.go i H' ∧ ∀ v H'', J'.yld i H' v H'' → Lk F' H' F' H'' ∧ FrOk g.K g.ca F' st' σ' H'' ∧ Rep g.K g.ca F'.ρ (hide F'.W H'') x v) ∧ (J.at i st' = some none → J'.stop i H')
def RIt : Rl It L2.It := fun F σ H J J' => ItS g J J' F σ H
def RI (E : L2.WX) (m : M It) : TI := RF g (RIt g) E m
def RG (ts : List Nat) (t : Tg) : TG := fun v σ H Q => ∃ F st d st', FrOk g.K g.ca F st σ H ∧ Rep g.K g.ca F.ρ (hide F.W H) d v ∧ t d st = some st' ∧ ∀ σ', FrOk g.K g.ca F st' σ' H → (∀ j, j ∉ ts → σ'[j]? = σ[j]?) → σ'.length = σ.length → Q σ' H
def RGs (ts : List Nat) (t : List D → Stt → Option Stt) : TGs := fun vs σ H Q => ∃ F st ds st', FrOk g.K g.ca F st σ H ∧ Reps g.K g.ca F.ρ (hide F.W H) ds vs ∧ t ds st = some st' ∧ ∀ σ', FrOk g.K g.ca F st' σ' H → (∀ j, j ∉ ts → σ'[j]? = σ[j]?) → σ'.length = σ.length → Q σ' H
end
theorem _root_.L2.PG.weak {X : Cx} {e : Expr} {t t' : TG} (h : PG X e t) (w : ∀ v σ H Q, t' v σ H Q → t v σ H Q) : PG X e t' := ⟨fun pins s σ H v u Q I r q => h.run pins s σ H v u Q I r (w v σ H Q q)⟩
theorem _root_.L2.PGs.weak {X : Cx} {e : List Expr} {t t' : TGs} (h : PGs X e t) (w : ∀ v σ H Q, t' v σ H Q → t v σ H Q) : PGs X e t' := ⟨fun pins s σ H v u Q I r q => h.run pins s σ H v u Q I r (w v σ H Q q)⟩
theorem _root_.L2.PI.weak {X : Cx} {tg e : Expr} {t t' : TI} (h : PI X tg e t) (w : ∀ σ H Q, t' σ H Q → t σ H Q) : PI X tg e t' := ⟨fun pins s σ H R I q => h.run pins s σ H R I (w σ H R q)⟩

section
variable {g : G} {X : Cx} {E : L2.WX} {F F1 : Fm} {st : Stt} {σ : L2.St} {H H1 : Hp} {J : It} {J' : L2.It}
theorem ItS.lk (s : ItS g J J' F σ H) (l : LkS F H F1 H1) : ItS g J J' F1 σ H1 := fun F' st' σ' H' l' => s F' st' σ' H' (l.trans l')
theorem RepH.lkS' {h : Hd} {v : V} {σ' : L2.St} (l : LkS F H F1 H1) (e : ∀ i, i ∈ hSlot h → σ'[i]? = σ[i]?) (r : RepH g.K g.ca F σ H h v) : RepH g.K g.ca F1 σ' H1 h v := by
  cases h with
  | d x => exact Rep.lkS (K := g.K) (ca := g.ca) l r
  | own i =>
    show σ'[i]? = some (some v)
    rw [e i (by simp [hSlot])]
    exact r
theorem RepC.lstO {K : PySem.W.Frag} {ca : CA} {ρ : List Addr} {W : Addr → Prop} {d : D} {xs : List D} {v : V} (r : RepC K ca ρ (hide W H) H d v) (e : lstOf d = some xs) : ∃ a vs, v = .ref a ∧ SqL K H a vs ∧ Reps K ca ρ (hide W H) xs vs := by
  cases d <;> simp only [lstOf, reduceCtorEq, Option.some.injEq] at e
  · subst e; obtain ⟨a, vs, e, h, q⟩ := r.lst; exact ⟨a, vs, e, SqL.of h, q⟩
  · subst e; exact r.frl
theorem RepC.tupO {K : PySem.W.Frag} {ca : CA} {ρ : List Addr} {W : Addr → Prop} {d : D} {xs : List D} {v : V} (r : RepC K ca ρ (hide W H) H d v) (e : tupOf d = some xs) : ∃ a vs, v = .ref a ∧ SqT K H a vs ∧ Reps K ca ρ (hide W H) xs vs := by
  cases d <;> simp only [tupOf, reduceCtorEq, Option.some.injEq] at e
  subst e; exact r.tup
theorem itS_lst {h : Hd} {a : Addr} (r : RepH g.K g.ca F σ H h (.ref a)) : ItS g (.lst h) (Itl g.K a) F σ H := fun F' st' σ' H' l ok e i => by
  have r' := RepH.lkS' (σ' := σ') l e r
  have key : ∀ o, (It.lst h).at i st' = some o → ∃ xs vs, SqL g.K H' a vs ∧ Reps g.K g.ca F'.ρ (hide F'.W H') xs vs ∧ xs[i]? = o := fun o q => by
    simp only [It.at, Option.map_eq_some_iff, Option.bind_eq_some_iff] at q
    obtain ⟨xs, ⟨d, c, q1⟩, q2⟩ := q
    obtain ⟨b, vs, e1, e2, e3⟩ := (cont_rep ok r' c).lstO q1
    cases e1
    exact ⟨xs, vs, e2, e3, q2⟩
  refine ⟨fun x q => ?_, fun q => ?_⟩
  · obtain ⟨xs, vs, h1, h2, h3⟩ := key _ q
    obtain ⟨v, e1, e2⟩ := h2.get h3
    refine ⟨⟨vs, v, h1, e1⟩, fun u H'' ⟨y1, y2⟩ => ?_⟩
    subst y1
    have := y2 vs h1
    rw [e1] at this; cases this
    exact ⟨Lk.refl, ok, e2⟩
  · obtain ⟨xs, vs, h1, h2, h3⟩ := key _ q
    exact ⟨vs, h1, by rw [← h2.length]; exact List.getElem?_eq_none_iff.mp h3⟩
theorem itS_tup {h : Hd} {a : Addr} (r : RepH g.K g.ca F σ H h (.ref a)) : ItS g (.tup h) (Itt g.K a) F σ H := fun F' st' σ' H' l ok e i => by
  have r' := RepH.lkS' (σ' := σ') l e r
  have key : ∀ o, (It.tup h).at i st' = some o → ∃ xs vs, SqT g.K H' a vs ∧ Reps g.K g.ca F'.ρ (hide F'.W H') xs vs ∧ xs[i]? = o := fun o q => by
    simp only [It.at, Option.map_eq_some_iff, Option.bind_eq_some_iff] at q
    obtain ⟨xs, ⟨d, c, q1⟩, q2⟩ := q
    obtain ⟨b, vs, e1, e2, e3⟩ := (cont_rep ok r' c).tupO q1
    cases e1
    exact ⟨xs, vs, e2, e3, q2⟩
  refine ⟨fun x q => ?_, fun q => ?_⟩
  · obtain ⟨xs, vs, h1, h2, h3⟩ := key _ q
    obtain ⟨v, e1, e2⟩ := h2.get h3
    refine ⟨⟨vs, v, h1, e1⟩, fun u H'' ⟨y1, y2⟩ => ?_⟩
    subst y1
    have := y2 vs h1
    rw [e1] at this; cases this
    exact ⟨Lk.refl, ok, e2⟩
  · obtain ⟨xs, vs, h1, h2, h3⟩ := key _ q
    exact ⟨vs, h1, by rw [← h2.length]; exact List.getElem?_eq_none_iff.mp h3⟩
theorem itS_rng {lo : Int} {n : Nat} : ItS g (.rng lo n) (Itr lo n) F σ H := fun F' st' σ' H' l ok e i => by
  refine ⟨fun x q => ?_, fun q => ?_⟩
  · simp only [It.at, Option.some.injEq] at q
    split at q
    · cases q
      rename_i hi
      refine ⟨hi, fun v H'' ⟨y1, y2⟩ => ?_⟩
      subst y1; subst y2
      exact ⟨Lk.refl, ok, .int _⟩
    · cases q
  · simp only [It.at, Option.some.injEq] at q
    split at q
    · cases q
    · rename_i hi
      show n ≤ i
      omega
theorem itS_str {x : Str} : ItS g (.str x) (Its x) F σ H := fun F' st' σ' H' l ok e i => by
  refine ⟨fun y q => ?_, fun q => ?_⟩
  · simp only [It.at, Option.some.injEq, Option.map_eq_some_iff] at q
    obtain ⟨c, h1, rfl⟩ := q
    have h1' : x.cps[i]? = some c := by rw [← Array.getElem?_toList]; exact h1
    refine ⟨(Array.getElem?_eq_some_iff.mp h1').1, fun v H'' ⟨y1, c', y2, y3⟩ => ?_⟩
    subst y1; subst y3
    rw [h1'] at y2; cases y2
    exact ⟨Lk.refl, ok, .str _⟩
  · simp only [It.at, Option.some.injEq, Option.map_eq_none_iff] at q
    show x.cps.size ≤ i
    rw [Array.getElem?_toList] at q
    exact Array.getElem?_eq_none_iff.mp q
/-! ### walked expressions -/
def iSeq (K : PySem.W.Frag) (tl : TE) : TI := fun σ H R => tl σ H fun x H1 => (∃ a, x = .ref a ∧ (∃ xs, SqL K H1 a xs) ∧ R (Itl K a) H1) ∨ (∃ a, x = .ref a ∧ (∃ xs, SqT K H1 a xs) ∧ R (Itt K a) H1) ∨ ∃ z, x = .str z ∧ R (Its z) H1
theorem pi_seq {tg l : Expr} {tl : TE} (hl : PE X l tl) : PI X tg l (iSeq X.K tl) := by
  refine ⟨fun pins s σ H R I h => ?_⟩
  refine thn (hl.run pins s σ H _ I h) fun v s1 ⟨x, H1, I1, r1, q1⟩ => ?_
  rcases q1 with ⟨a, e, ⟨xs, hq⟩, q⟩ | ⟨a, e, ⟨xs, hq⟩, q⟩ | ⟨z, e, q⟩
  · subst e
    cases r1
    obtain ⟨its, rv, p, hz⟩ := I1.list hq
    exact wpAny_pyIter_list p.isList (pi_one (tk := s1.toks) I1 _ (turn_list a _) ⟨_, Heap.get?_push_size _ rfl, rfl, rfl⟩ q)
  · subst e
    cases r1
    obtain ⟨its, rv, p, hz⟩ := I1.tuple hq
    exact wpAny_pyIter_tuple (show s1.heap.IsTuple a its.toArray from p) (pi_one (tk := s1.toks) I1 _ (turn_tuple a _) ⟨_, Heap.get?_push_size _ rfl, rfl, rfl⟩ q)
  · subst e
    obtain ⟨t, rfl⟩ := r1
    cases ha : z.cps.all (· < 128)
    · exact wpAny_pyIter_wide ha (pi_one (tk := s1.toks) I1 _ (turn_str _ z t "str_iterator" (.inr rfl)) ⟨_, Heap.get?_push_size _ rfl, rfl, rfl⟩ q)
    · exact wpAny_pyIter_ascii ha (pi_one (tk := s1.toks) I1 _ (turn_str _ z t "str_ascii_iterator" (.inl rfl)) ⟨_, Heap.get?_push_size _ rfl, rfl, rfl⟩ q)
variable {tg e a b : Expr} {m : M Hd} {ms : M (List D)} {p pos : Pos}
theorem rf_frz (he : PE X e (RE g E m)) : PE X e (RE g E (mFrz m)) := he.weak fun σ H Q ⟨F, st, w⟩ => ⟨F, st, (RFw.bind (R := RH g) w).mono fun v H1 ⟨F1, h1, st1, l1, r1, w⟩ => by
  obtain ⟨F2, st2, d, l2, rd, w⟩ := w.toD_bind r1
  exact w.here rd⟩
theorem ri_seq (hK : X.K = g.K) (he : PE X e (RE g E m)) : PI X tg e (RI g E (iH m)) := (pi_seq he).weak fun σ H R ⟨F, st, w⟩ => ⟨F, st, (RFw.bind (R := RH g) w).mono fun v H1 ⟨F1, h1, st1, l1, r1, w⟩ => by
  obtain ⟨d, c, rd, w⟩ := w.look_bind' r1
  rw [hK]
  cases d <;> first | exact w.2.elim | skip
  · cases rd.str
    exact .inr (.inr ⟨_, rfl, w.here itS_str⟩)
  · obtain ⟨a, vs, rfl, h, q⟩ := rd.tup
    exact .inr (.inl ⟨a, rfl, ⟨vs, h⟩, w.here (itS_tup r1)⟩)
  · obtain ⟨a, vs, rfl, h, q⟩ := rd.lst
    exact .inl ⟨a, rfl, ⟨vs, SqL.of h⟩, w.here (itS_lst r1)⟩
  · obtain ⟨a, vs, rfl, h, q⟩ := rd.frl
    exact .inl ⟨a, rfl, ⟨vs, h⟩, w.here (itS_lst r1)⟩⟩
theorem smallI_of {i : Int} (h : smallI i = true) : -(2 ^ 62) ≤ i ∧ i < 2 ^ 62 := by
  have := of_decide_eq_true h
  exact this
theorem ri_r1 (hg : Gl X "range") (hm : X.mg "range" = none) (ha : PA X [a] (RA g E ms)) (hs : starEach [a] X.env = [(false, eval a X.env)]) : PI X tg (.Call (.Name "range" p) [a] [] pos) (RI g E (iR1 ms)) := (pi_range1 hg hm ha hs).weak fun σ H R ⟨F, st, w⟩ =>
  ⟨F, st, (RFw.bind (R := RL g) w).mono fun vs H1 ⟨F1, ds, st1, l1, r1, w⟩ => by
    split at w
    · rename_i j
      split at w
      · rename_i hj
        obtain ⟨h1, h2⟩ := smallI_of hj
        cases r1 with
        | cons r t =>
          cases t; cases r
          exact ⟨j, rfl, h1, h2, w.here itS_rng⟩
      · exact w.2.elim
    · exact w.2.elim⟩
theorem ri_r2 (hg : Gl X "range") (hm : X.mg "range" = none) (ha : PA X [a, b] (RA g E ms)) (hs : starEach [a, b] X.env = [(false, eval a X.env), (false, eval b X.env)]) (hs2 : starEach [b] X.env = [(false, eval b X.env)]) :
    PI X tg (.Call (.Name "range" p) [a, b] [] pos) (RI g E (iR2 ms)) := (pi_range2 hg hm ha hs hs2).weak fun σ H R ⟨F, st, w⟩ =>
  ⟨F, st, (RFw.bind (R := RL g) w).mono fun vs H1 ⟨F1, ds, st1, l1, r1, w⟩ => by
    split at w
    · rename_i i j
      split at w
      · rename_i hj
        obtain ⟨h1, h2⟩ := smallI_of hj.1
        obtain ⟨h3, h4⟩ := smallI_of hj.2
        cases r1 with
        | cons r t =>
          cases t with
          | cons r' t' =>
            cases t'; cases r; cases r'
            exact ⟨i, j, rfl, ⟨h1, h2, h3, h4⟩, w.here itS_rng⟩
      · exact w.2.elim
    · exact w.2.elim⟩
/-! ### targets -/
theorem rg_name {i : Nat} {x : Str} (hN : X.N.Nodup) (hi : X.N[i]? = some x) (hx : Loc X.env.scope x) (hf : X.fn x = true ∨ X.env.scope.names.lookup x = some .local) : PG X (.Name x pos) (RG g [i] (tgName i)) :=
  (pg_name hN hi hx hf).weak fun v σ H Q ⟨F, st, d, st', ok, r, e, h⟩ => by
    cases e
    exact h _ (ok.setv i r) (fun j hj => List.getElem?_set_ne (fun z => hj (by rw [← z]; exact List.mem_singleton.mpr rfl))) (by simp)
theorem rgs_nil : PGs X [] (RGs g [] tgsNil) := pgs_nil.weak fun vs σ H Q ⟨F, st, ds, st', ok, r, e, h⟩ => by
  cases r with
  | nil => cases e; exact ⟨rfl, h _ ok (fun _ _ => rfl) rfl⟩
  | cons _ _ => cases e
theorem rgs_cons {e : Expr} {es : List Expr} {ts us : List Nat} {t : Tg} {u : List D → Stt → Option Stt} (h1 : ∀ {te : TG} {tu : TGs}, PG X e te → PGs X es tu → PGs X (e :: es) (gCons te tu)) (ht : PG X e (RG g ts t)) (hu : PGs X es (RGs g us u)) :
    PGs X (e :: es) (RGs g (ts ++ us) (tgsCons t u)) := (h1 ht hu).weak fun vs σ H Q ⟨F, st, ds, st', ok, r, e, h⟩ => by
  cases r with
  | nil => cases e
  | @cons d v ds vs r1 r2 =>
    have e : (t d st).bind (u ds) = some st' := e
    obtain ⟨s1, e1, e2⟩ := Option.bind_eq_some_iff.mp e
    refine ⟨v, vs, rfl, F, st, d, s1, ok, r1, e1, fun σ1 ok1 c1 l1 => ?_⟩
    refine ⟨F, s1, ds, st', ok1, r2, e2, fun σ2 ok2 c2 l2 => ?_⟩
    exact h σ2 ok2 (fun j hj => by
      rw [c2 j (fun z => hj (List.mem_append_right _ z)), c1 j (fun z => hj (List.mem_append_left _ z))]) (l2.trans l1)
theorem rg_tup {es : List Expr} {k n : Nat} {ts : List Nat} {u : List D → Stt → Option Stt} (hc : X.calm = true) (hK : X.K = g.K) (h : PGs X es (RGs g ts u)) (hn : (assignEach es X.env).length = n) (hst : (assignEach es X.env).findIdx? (·.1) = none) :
    PG X (.Tuple es k pos) (RG g ts (tgTup n u)) := (pg_tup hc h hn hst).weak fun v σ H Q ⟨F, st, d, st', ok, r, e, h⟩ => by
  cases d <;> simp only [tgTup, reduceCtorEq] at e
  split at e
  · rename_i hl
    cases r with
    | @tup a vs ds h1 q =>
      rw [hK]
      exact ⟨a, vs, rfl, (hide_sub _ _).seqT h1, by rw [← q.length]; exact hl, F, st, _, st', ok, q, e, h⟩
  · cases e
/-! ### for -/
theorem rs_for {iter : Expr} {body : List Stmt} {mi : M It} {ts : List Nat} {t : Tg} {mb : MS} (hp : PassesOwn (model X.prog X.w) X.A X.env X.xe) (hc : X.calm = true) (hi : PI X tg iter (RI g E mi)) (hg : PG X tg (RG g ts t)) (hb : PSs X body (RS g E mb))
    (hs : ∀ x, foldedSetIterable iter X.env x = pure x) : PS X (.For tg iter body [] pos) (RS g E (sFor mi t mb)) := (ps_for hp hc hi hg hb hs).weak fun D0 σ H ⟨F, st, w⟩ =>
  ⟨F, st, (RSw.m_bind (R := RIt g) w).mono fun J' H1 ⟨F1, J, st1, l1, its, w⟩ => by
    obtain ⟨ok, w⟩ := w
    split at w
    · rename_i hsl
      have hsl' : ∀ i, i ∉ J.slots := fun i z => by
        rw [List.isEmpty_iff.mp hsl] at z; cases z
      refine ⟨fun i m σ H => ∃ F st, LkS F1 H1 F H ∧ FrOk g.K g.ca F st σ H ∧ PostS g E (forGo J t mb m i st) F H D0, ⟨_, F1, st1, LkS.refl, ok, w⟩, ?_⟩
      rintro i m σ H ⟨F2, st2, l2, ok2, w2⟩
      obtain ⟨go, stop⟩ := its F2 st2 σ H l2 ok2 (fun j hj => absurd hj (hsl' j)) i
      have fin : J.at i st2 = some none → PostS g E (.nx st2) F2 H D0 → J'.stop i H ∧ D0.nx σ H := fun e w => ⟨stop e, w F2 σ H LkS.refl ok2⟩
      cases m with
      | zero =>
        unfold forGo at w2
        cases e : J.at i st2 with
        | none => simp only [e] at w2; exact w2.elim
        | some o =>
          cases o with
          | none => simp only [e] at w2; exact .inl (fin e w2)
          | some x => simp only [e] at w2; exact w2.elim
      | succ m =>
        unfold forGo at w2
        cases e : J.at i st2 with
        | none => simp only [e] at w2; exact w2.elim
        | some o =>
          cases o with
          | none => simp only [e] at w2; exact .inl (fin e w2)
          | some x =>
            simp only [e] at w2
            obtain ⟨g1, g2⟩ := go x e
            refine .inr ⟨g1, fun σ' H' => ∃ F st, LkS F1 H1 F H' ∧ FrOk g.K g.ca F st σ' H' ∧ PostS g E (forGo J t mb m (i + 1) st) F H' D0, fun σ' H' q => ⟨m, Nat.lt_succ_self m, q⟩, fun v H'' y => ?_⟩
            obtain ⟨ly, oky, ry⟩ := g2 v H'' y
            cases et : t x st2 with
            | none => simp only [et] at w2; exact w2.elim
            | some s1 =>
              simp only [et] at w2
              refine ⟨F2, st2, x, s1, oky, ry, et, fun σ3 ok3 _ _ => ⟨F2, s1, ok3, ?_⟩⟩
              have w3 := PostS.lk (g := g) ly.s w2
              cases eb : mb s1 with
              | nx s' =>
                simp only [eb] at w3
                exact fun F' σ' H' l o => ⟨F', s', (l2.trans ly.s).trans l, o, PostS.lk l w3⟩
              | ct s' =>
                simp only [eb] at w3
                exact fun F' σ' H' l o => ⟨F', s', (l2.trans ly.s).trans l, o, PostS.lk l w3⟩
              | bk s' => simp only [eb] at w3; exact w3
              | rt d s' => simp only [eb] at w3; exact w3
              | exc c fs s' => simp only [eb] at w3; exact w3
              | bad => simp only [eb] at w3; exact w3.elim
    · exact w.elim⟩
end
end Rf

set_option Elab.async false
set_option linter.all false
set_option maxRecDepth 100000
/-! Rf, part R: comprehensions. -/
namespace Rf
open PySem L2 PyProof.Rows

def wipeL : List Sl → List Nat → List Sl
  | σ, [] => σ
  | σ, v :: vs => (wipeL σ vs).set v .no
def resL (σ0 : List Sl) : List Sl → List Nat → List Sl
  | σ, [] => σ
  | σ, v :: vs => (resL σ0 σ vs).set v (σ0.getD v .no)
def wipeS (vs : List Nat) (s : Stt) : Stt := { s with σ := wipeL s.σ vs }
def resS (vs : List Nat) (s0 s : Stt) : Stt := { s with σ := resL s0.σ s.σ vs }
def noOwn (vs : List Nat) (s : Stt) : Bool := vs.all fun v => match s.σ[v]? with
  | some (.own _) => false
  | _ => true
def mYes : M Bool := ret true
/-- the turns of a comprehension; its list: the temporary j -/
def lcGo (J : It) (t : Tg) (c : M Bool) (e : M Hd) (vs : List Nat) (j : Nat) : Nat → Nat → Stt → Option Stt
  | 0, i, s => (match J.at i (wipeS vs s) with
    | some none => some s
    | _ => none)
  | n + 1, i, s => (match J.at i (wipeS vs s) with
    | some none => some s
    | some (some x) => (match t x (wipeS vs s) with
      | some s1 => (match c s1 with
        | .ok b s2 => if b = true then (match mD false e s2 with
            | .ok y s3 => (match s3.tm[j]? with
              | some (.lst acc) => if acc.length < lim then lcGo J t c e vs j n (i + 1) { s3 with tm := s3.tm.set j (.lst (acc ++ [y])) } else none
              | _ => none)
            | _ => none) else lcGo J t c e vs j n (i + 1) s2
        | _ => none)
      | none => none)
    | none => none)
def lcOk (J : It) (vs : List Nat) (s : Stt) : Bool := noOwn vs s && J.slots.all fun i => !vs.contains i
def nLc (mi : M It) (t : Tg) (c : M Bool) (e : M Hd) (vs : List Nat) : M Nat := bnd mi fun J s => if lcOk J vs s = true then (match lcGo J t c e vs s.tm.length (J.len s) 0 (pushT (.lst []) s) with
  | some s' => .ok s.tm.length (resS vs s s')
  | none => .bad) else .bad
def dcGo (J : It) (t : Tg) (c : M Bool) (k e : M Hd) (vs : List Nat) (j : Nat) : Nat → Nat → Stt → Option Stt
  | 0, i, s => (match J.at i (wipeS vs s) with
    | some none => some s
    | _ => none)
  | n + 1, i, s => (match J.at i (wipeS vs s) with
    | some none => some s
    | some (some x) => (match t x (wipeS vs s) with
      | some s1 => (match c s1 with
        | .ok b s2 => if b = true then (match mD false k s2 with
            | .ok y s3 => (match mD false e s3 with
              | .ok z s4 => (match s4.tm[j]? with
                | some (.dct acc) => if acc.length < lim ∧ (keyD y).isSome = true then dcGo J t c k e vs j n (i + 1) { s4 with tm := s4.tm.set j (.dct (putD acc y z)) } else none
                | _ => none)
              | _ => none)
            | _ => none) else dcGo J t c k e vs j n (i + 1) s2
        | _ => none)
      | none => none)
    | none => none)
def nDc (mi : M It) (t : Tg) (c : M Bool) (k e : M Hd) (vs : List Nat) : M Nat := bnd mi fun J s => if lcOk J vs s = true then (match dcGo J t c k e vs s.tm.length (J.len s) 0 (pushT (.dct []) s) with
  | some s' => .ok s.tm.length (resS vs s s')
  | none => .bad) else .bad

def Ex0 : L2.WX := fun _ _ _ _ => False

theorem wipe_get (σ : L2.St) : ∀ (vs : List Nat) (j : Nat), (wipe σ vs)[j]? = if j ∈ vs ∧ j < σ.length then some none else σ[j]?
  | [], j => by simp [wipe]
  | v :: vs, j => by
    unfold wipe
    by_cases h : v = j
    · subst h
      by_cases hl : v < σ.length
      · rw [List.getElem?_set_self (by rw [wipe_length]; exact hl), if_pos ⟨List.mem_cons_self, hl⟩]
      · rw [if_neg (fun z => hl z.2), List.getElem?_eq_none (by rw [List.length_set, wipe_length]; omega), List.getElem?_eq_none (by omega)]
    · rw [List.getElem?_set_ne h, wipe_get σ vs j]
      have : (j ∈ v :: vs) ↔ j ∈ vs := by
        rw [List.mem_cons]
        exact ⟨fun z => z.resolve_left (fun q => h q.symm), .inr⟩
      simp only [this]
theorem wipeL_len (σ : List Sl) : ∀ vs : List Nat, (wipeL σ vs).length = σ.length
  | [] => rfl
  | v :: vs => by unfold wipeL; rw [List.length_set, wipeL_len σ vs]
theorem wipeL_get (σ : List Sl) : ∀ (vs : List Nat) (j : Nat), (wipeL σ vs)[j]? = if j ∈ vs ∧ j < σ.length then some .no else σ[j]?
  | [], j => by simp [wipeL]
  | v :: vs, j => by
    unfold wipeL
    by_cases h : v = j
    · subst h
      by_cases hl : v < σ.length
      · rw [List.getElem?_set_self (by rw [wipeL_len]; exact hl), if_pos ⟨List.mem_cons_self, hl⟩]
      · rw [if_neg (fun z => hl z.2), List.getElem?_eq_none (by rw [List.length_set, wipeL_len]; omega), List.getElem?_eq_none (by omega)]
    · rw [List.getElem?_set_ne h, wipeL_get σ vs j]
      have : (j ∈ v :: vs) ↔ j ∈ vs := by
        rw [List.mem_cons]
        exact ⟨fun z => z.resolve_left (fun q => h q.symm), .inr⟩
      simp only [this]
theorem resL_len (σ0 σ : List Sl) : ∀ vs : List Nat, (resL σ0 σ vs).length = σ.length
  | [] => rfl
  | v :: vs => by unfold resL; rw [List.length_set, resL_len σ0 σ vs]
theorem resL_get (σ0 σ : List Sl) : ∀ (vs : List Nat) (j : Nat), (resL σ0 σ vs)[j]? = if j ∈ vs ∧ j < σ.length then some (σ0.getD j .no) else σ[j]?
  | [], j => by simp [resL]
  | v :: vs, j => by
    unfold resL
    by_cases h : v = j
    · subst h
      by_cases hl : v < σ.length
      · rw [List.getElem?_set_self (by rw [resL_len]; exact hl), if_pos ⟨List.mem_cons_self, hl⟩]
      · rw [if_neg (fun z => hl z.2), List.getElem?_eq_none (by rw [List.length_set, resL_len]; omega), List.getElem?_eq_none (by omega)]
    · rw [List.getElem?_set_ne h, resL_get σ0 σ vs j]
      have : (j ∈ v :: vs) ↔ j ∈ vs := by
        rw [List.mem_cons]
        exact ⟨fun z => z.resolve_left (fun q => h q.symm), .inr⟩
      simp only [this]
theorem wipe_same {σ σ2 : L2.St} {vs ts : List Nat} (h : ∀ j, j ∉ ts → σ2[j]? = (wipe σ vs)[j]?) (hl : σ2.length = (wipe σ vs).length) (hs : ∀ j, j ∈ ts → j ∈ vs) : wipe σ2 vs = wipe σ vs := by
  apply List.ext_getElem?
  intro j
  rw [wipe_length] at hl
  rw [wipe_get, wipe_get, hl]
  by_cases c : j ∈ vs ∧ j < σ.length
  · rw [if_pos c, if_pos c]
  · rw [if_neg c, if_neg c]
    by_cases c2 : j ∈ vs
    · have : ¬ j < σ.length := fun z => c ⟨c2, z⟩
      rw [List.getElem?_eq_none (by omega), List.getElem?_eq_none (by omega)]
    · have := h j (fun z => c2 (hs j z))
      rw [wipe_get, if_neg c] at this
      exact this
section
variable {K : PySem.W.Frag} {ca : CA} {F F' : Fm} {st s0 : Stt} {σ : L2.St} {H H' : Hp} {vs : List Nat}
theorem FrOk.wipe (ok : FrOk K ca F st σ H) (vs : List Nat) : FrOk K ca F (wipeS vs st) (L2.wipe σ vs) H := by
  refine ⟨by show (wipeL st.σ vs).length = (L2.wipe σ vs).length; rw [wipeL_len, wipe_length]; exact ok.len, fun i d h => ?_, fun i o h => ?_, ok.tm, ok.box, ok.boxn, ok.nd, ok.ownI, ok.tmI, ok.ownT, ok.ownF, ok.tmF, ok.bF, ok.mono, ok.pre0, ok.new0, ok.dom, ok.tab, fun x p e q => ?_⟩
  rotate_left 2
  · have q : (wipeL st.σ vs)[0]? = some (.own p) := q
    rw [wipeL_get] at q
    split at q
    · cases q
    · exact ok.slf x p e q
  · have h : (wipeL st.σ vs)[i]? = some (.val d) := h
    rw [wipeL_get] at h
    rw [wipe_get, ← ok.len]
    split at h
    · cases h
    · rename_i c
      rw [if_neg c]; exact ok.val i d h
  · have h : (wipeL st.σ vs)[i]? = some (.own o) := h
    rw [wipeL_get] at h
    rw [wipe_get, ← ok.len]
    split at h
    · cases h
    · rename_i c
      rw [if_neg c]; exact ok.own i o h
theorem FrOk.res (ok0 : FrOk K ca F s0 σ H) (l : LkS F H F' H') (ok : FrOk K ca F' (wipeS vs st) (L2.wipe σ vs) H') (n : noOwn vs s0 = true) : FrOk K ca F' (resS vs s0 st) σ H' := by
  have hl : st.σ.length = σ.length := by
    have := ok.len
    rw [show (wipeS vs st).σ.length = st.σ.length from wipeL_len _ _, wipe_length] at this
    exact this
  refine ⟨by show (resL s0.σ st.σ vs).length = σ.length; rw [resL_len]; exact hl, fun i d h => ?_, fun i o h => ?_, ok.tm, ok.box, ok.boxn, ok.nd, ok.ownI, ok.tmI, ok.ownT, ok.ownF, ok.tmF, ok.bF, ok.mono, ok.pre0, ok.new0, ok.dom, ok.tab, fun x p e q => ?_⟩
  rotate_left 2
  · have q : (resL s0.σ st.σ vs)[0]? = some (.own p) := q
    rw [resL_get] at q
    split at q
    · rename_i c
      have h0 : s0.σ[0]? = some (.own p) := by
        rw [List.getD_eq_getElem?_getD] at q
        cases z : s0.σ[0]? with
        | none => rw [z] at q; cases q
        | some y => rw [z] at q; exact q
      have := List.all_eq_true.mp n 0 c.1
      rw [h0] at this; cases this
    · rename_i c
      exact ok.slf x p e (by show (wipeL st.σ vs)[0]? = _; rw [wipeL_get, if_neg c]; exact q)
  · have h : (resL s0.σ st.σ vs)[i]? = some (.val d) := h
    rw [resL_get] at h
    split at h
    · rename_i c
      have h0 : s0.σ[i]? = some (.val d) := by
        rw [List.getD_eq_getElem?_getD] at h
        cases q : s0.σ[i]? with
        | none => rw [q] at h; cases h
        | some x => rw [q] at h; exact h
      obtain ⟨v, e, r⟩ := ok0.val i d h0
      exact ⟨v, e, r.lkS l⟩
    · rename_i c
      have := ok.val i d (by show (wipeL st.σ vs)[i]? = _; rw [wipeL_get, if_neg c]; exact h)
      rw [wipe_get, ← hl, if_neg c] at this
      exact this
  · have h : (resL s0.σ st.σ vs)[i]? = some (.own o) := h
    rw [resL_get] at h
    split at h
    · rename_i c
      have h0 : s0.σ[i]? = some (.own o) := by
        rw [List.getD_eq_getElem?_getD] at h
        cases q : s0.σ[i]? with
        | none => rw [q] at h; cases h
        | some x => rw [q] at h; exact h
      have := List.all_eq_true.mp n i c.1
      rw [h0] at this; cases this
    · rename_i c
      have := ok.own i o (by show (wipeL st.σ vs)[i]? = _; rw [wipeL_get, if_neg c]; exact h)
      rw [wipe_get, ← hl, if_neg c] at this
      exact this
/-- a temporary is written -/
theorem FrOk.setT (ok : FrOk K ca F st σ H) {j : Nat} {a : Addr} {d' : D} {o' : HO} (h : F.tm j = some a) (t : Top K ca F.ρ (hide F.W H) (L2.upd H a o') a d') :
    Lk F H F (L2.upd H a o') ∧ FrOk K ca F { st with tm := st.tm.set j d' } σ (L2.upd H a o') := by
  have wa : F.W a := .inr (.inr (.inr ⟨j, h⟩))
  obtain ⟨f1, f2⟩ := ok.tmF j a h
  obtain ⟨o0, e0, t0⟩ := ok.tm j a h
  have hj := (List.getElem?_eq_some_iff.mp e0).1
  have kp : ∀ {b : Addr} {x : D}, b ≠ a → Top K ca F.ρ (hide F.W H) H b x → Top K ca F.ρ (hide F.W (L2.upd H a o')) (L2.upd H a o') b x := fun {b x} n t => by
    rw [hide_upd wa]
    exact t.mono (Sub.refl _) (List.prefix_refl _) fun u q => by rw [upd_ne n]; exact q
  refine ⟨⟨⟨rfl, rfl, rfl, List.prefix_refl _, by rw [hide_upd wa]; exact Sub.refl _⟩, fun _ _ h => h⟩, ok.len, fun i x q => by rw [hide_upd wa]; exact ok.val i x q, fun i x q => ?_, fun k b q => ?_, fun i b q => ?_, ok.boxn, ok.nd, ok.ownI, ok.tmI, ok.ownT, fun i b q => ?_, ok.tmF, ok.bF, fun b u q n nt => ?_, ok.pre0, ok.new0, fun b h => dom_upd (ok.dom b h), let ⟨_, e1, e2, e3⟩ := t0.nt; tabs_upd ok.tab e1 e2 e3, ok.slf⟩
  · obtain ⟨b, q1, q2, q3⟩ := ok.own i x q
    exact ⟨b, q1, q2, kp (fun z => by rw [z] at q1; exact ok.ownT i j a q1 h) q3⟩
  · by_cases hk : k = j
    · subst hk
      rw [h] at q; cases q
      exact ⟨d', by show (st.tm.set k d')[k]? = some d'; rw [List.getElem?_set_self hj], by rw [hide_upd wa]; exact t⟩
    · obtain ⟨x, q1, q2⟩ := ok.tm k b q
      exact ⟨x, by show (st.tm.set j d')[k]? = some x; rw [List.getElem?_set_ne (Ne.symm hk)]; exact q1, kp (fun z => hk (by rw [z] at q; exact ok.tmI k j a q h)) q2⟩
  · obtain ⟨x, q1, q2⟩ := ok.box i b q
    exact ⟨x, q1, kp (fun z => f2 (by rw [← z]; exact List.mem_of_getElem? q)) q2⟩
  · obtain ⟨q1, q2, q3⟩ := ok.ownF i b q
    refine ⟨q1, q2, ?_⟩
    rw [upd_ne (fun z => by rw [z] at q; exact ok.ownT i j a q h)]; exact q3
  · rw [upd_ne (fun z => by rw [z, f1] at q; cases q)]
    exact ok.mono b u q n nt
end
section
variable {g : G} {X : Cx} {E : L2.WX} {F F1 : Fm} {st : Stt} {σ : L2.St} {H H1 : Hp}
theorem rts_nil : PTs X [] (RT g E mYes) := ⟨fun pins s σ H Q I ⟨F, st, w⟩ => pts_nil.run pins s σ H Q I (w.here rfl)⟩
/-- a piece run without a way out by exceptions -/
theorem RFw.pure_of {α β : Type} {R : Rl α β} {m : M α} {Q : β → Hp → Prop} (ok : FrOk g.K g.ca F st σ H) {a : α} {s' : Stt} (e : m st = .ok a s') (h : ∀ F' b H', Lk F H F' H' → FrOk g.K g.ca F' s' σ H' → R F' σ H' a b → Q b H') : RFw g R E m F st σ H Q := ⟨ok, by rw [e]; exact h⟩
theorem mD_pure {e : M Hd} {y : D} {s3 : Stt} {Q : VK} (ok : FrOk g.K g.ca F st σ H) (q : mD false e st = .ok y s3) (h : ∀ F' v H', Lk F H F' H' → FrOk g.K g.ca F' s3 σ H' → Rep g.K g.ca F'.ρ (hide F'.W H') y v → Q v H') : RFw g (RH g) Ex0 e F st σ H Q := by
  unfold mD bnd at q
  cases e1 : e st with
  | ok hd s2 =>
    rw [e1] at q
    refine RFw.pure_of ok e1 fun F' v H' l ok' r => ?_
    obtain ⟨F2, l2, ok2, r2⟩ := toD_ok ok' r q
    exact h F2 v H' (l.trans l2) ok2 r2
  | exc c fs s2 => rw [e1] at q; cases q
  | bad => rw [e1] at q; cases q
variable {elt kx tg iter : Expr} {ifs : List Expr} {scope : Scope} {own : List (Str × Nat)} {pos : Pos} {mi : M It} {ts : List Nat} {t : Tg} {mc : M Bool} {me mk : M Hd}
theorem lc_core {J : It} {J' : L2.It} {vs : List Nat} {st1 : Stt} {Q : VK} {D : Addr} (hts : ∀ j, j ∈ ts → j ∈ vs) (ok1 : FrOk g.K g.ca F1 st1 σ H1) (its : ItS g J J' F1 σ H1) (hD : H1 D = none)
    (w : Post g RNr E (if lcOk J vs st1 = true then (match lcGo J t mc me vs st1.tm.length (J.len st1) 0 (pushT (.lst []) st1) with
      | some s' => .ok st1.tm.length (resS vs st1 s')
      | none => .bad) else .bad) F1 σ H1 Q) :
    ∃ W : Nat → Nat → Hp → Prop, (∃ m, W 0 m (L2.upd H1 D (.lst []))) ∧ ∀ i m H, W i m H →
      (J'.stop i H ∧ Q (.ref D) H) ∨ (J'.go i H ∧ ∃ Nx : Hp → Prop, (∀ H', Nx H' → ∃ m', m' < m ∧ W (i + 1) m' H') ∧ ∀ x H', J'.yld i H x H' → RG g ts t x (L2.wipe σ vs) H' fun σ2 H2 => L2.wipe σ2 vs = L2.wipe σ vs ∧ RT g Ex0 mc σ2 H2 fun b H3 =>
      if b = true then RE g Ex0 me σ2 H3 fun y H4 => ∃ acc, H4 D = some (.lst acc) ∧ acc.length < sizeLine ∧ Nx (L2.upd H4 D (.lst (acc ++ [y]))) else Nx H3) := by
  split at w
  · rename_i hl
    obtain ⟨hl1, hl2⟩ := (Bool.and_eq_true _ _).mp hl
    have hl2' : ∀ i, i ∈ J.slots → i ∉ vs := fun i hi => by
      have := List.all_eq_true.mp hl2 i hi
      simpa using this
    generalize hG : lcGo J t mc me vs st1.tm.length (J.len st1) 0 (pushT (.lst []) st1) = G0 at w
    obtain ⟨lp, okp⟩ := ok1.push (p := D) (o := .lst []) (d := .lst []) hD ⟨[], upd_same, .nil⟩
    have tm0 : (F1.put st1.tm.length D).tm st1.tm.length = some D := by show (if _ = _ then some D else _) = _; rw [if_pos rfl]
    refine ⟨fun i m H => ∃ F2 s2, Lk (F1.put st1.tm.length D) (L2.upd H1 D (.lst [])) F2 H ∧ FrOk g.K g.ca F2 (wipeS vs s2) (L2.wipe σ vs) H ∧ lcGo J t mc me vs st1.tm.length m i s2 = G0, ⟨_, _, _, Lk.refl, okp.wipe vs, hG⟩, ?_⟩
    rintro i m H ⟨F2, s2, l2, ok2, w2⟩
    have l12 : Lk F1 H1 F2 H := lp.trans l2
    obtain ⟨go, stop⟩ := its F2 (wipeS vs s2) (L2.wipe σ vs) H l12.s ok2 (fun j hj => by rw [wipe_get, if_neg (fun z => hl2' j hj z.1)]) i
    rw [← w2] at w
    have fin : J.at i (wipeS vs s2) = some none → Post g RNr E (.ok st1.tm.length (resS vs st1 s2)) F1 σ H1 Q → J'.stop i H ∧ Q (.ref D) H := fun e w => ⟨stop e, w F2 (.ref D) H l12 (ok1.res l12.s ok2 hl1) ⟨D, rfl, l2.tmk _ _ tm0⟩⟩
    cases m with
    | zero =>
      unfold lcGo at w
      cases e : J.at i (wipeS vs s2) with
      | none => simp only [e] at w; exact w.elim
      | some o =>
        cases o with
        | none => simp only [e] at w; exact .inl (fin e w)
        | some x => simp only [e] at w; exact w.elim
    | succ m =>
      unfold lcGo at w w2
      cases e : J.at i (wipeS vs s2) with
      | none => simp only [e] at w; exact w.elim
      | some o =>
        cases o with
        | none => simp only [e] at w; exact .inl (fin e w)
        | some x =>
          simp only [e] at w w2
          obtain ⟨g1, g2⟩ := go x e
          refine .inr ⟨g1, fun H' => ∃ F2 s2, Lk (F1.put st1.tm.length D) (L2.upd H1 D (.lst [])) F2 H' ∧ FrOk g.K g.ca F2 (wipeS vs s2) (L2.wipe σ vs) H' ∧ lcGo J t mc me vs st1.tm.length m (i + 1) s2 = G0, fun H' q => ⟨m, Nat.lt_succ_self m, q⟩, fun v H'' y => ?_⟩
          obtain ⟨ly, oky, ry⟩ := g2 v H'' y
          cases et : t x (wipeS vs s2) with
          | none => simp only [et] at w; exact w.elim
          | some s3 =>
            simp only [et] at w w2
            refine ⟨F2, _, x, s3, oky, ry, et, fun σ3 ok3 c3 n3 => ?_⟩
            have ws := wipe_same c3 n3 hts
            refine ⟨ws, ?_⟩
            cases ec : mc s3 with
            | ok b s4 =>
              simp only [ec] at w w2
              refine ⟨F2, s3, RFw.pure_of ok3 ec fun F4 b' H4 l4 ok4 eb => ?_⟩
              cases eb
              cases b with
              | false =>
                simp only [Bool.false_eq_true, if_false] at w w2 ⊢
                exact ⟨F4, s4, (l2.trans ly).trans l4, by rw [← ws]; exact ok4.wipe vs, w2⟩
              | true =>
                simp only [if_true] at w w2 ⊢
                cases ee : mD false me s4 with
                | ok yd s5 =>
                  simp only [ee] at w w2
                  refine ⟨F4, s4, mD_pure ok4 ee fun F5 yv H5 l5 ok5 r5 => ?_⟩
                  have l25 := ((l2.trans ly).trans l4).trans l5
                  have tmD := l25.tmk _ _ tm0
                  obtain ⟨o5, e5, t5⟩ := ok5.tm _ _ tmD
                  cases o5 with
                  | lst acc =>
                    simp only [e5] at w w2
                    by_cases hz : acc.length < lim
                    · simp only [if_pos hz] at w w2
                      obtain ⟨av, h5, q5⟩ := t5
                      obtain ⟨l6, ok6⟩ := ok5.setT (d' := .lst (acc ++ [yd])) (o' := .lst (av ++ [yv])) tmD ⟨_, upd_same, q5.append (.cons r5 .nil)⟩
                      exact ⟨av, h5, by rw [← lim_eq, ← q5.length]; exact hz, F5, _, l25.trans l6, by rw [← ws]; exact ok6.wipe vs, w2⟩
                    · simp only [if_neg hz] at w
                      exact w.elim
                  | _ => first | (simp only [e5] at w; exact w.elim)
                | exc c fs s5 => simp only [ee] at w; exact w.elim
                | bad => simp only [ee] at w; exact w.elim
            | exc c fs s4 => simp only [ec] at w; exact w.elim
            | bad => simp only [ec] at w; exact w.elim
  · exact w.elim
theorem rn_lc (hc : X.calm = true) (hN : X.N.Nodup) (hi : PI X tg iter (RI g E mi)) (ok : BlkOk X.N X.env.scope scope own) (hts : ∀ j, j ∈ ts → j ∈ own.map (·.2))
    (hg : ∀ (s : Shared) (H : Hp) (C : Addr) (cl : List (Str × Addr)) (fp : List Addr), PG (X.blk s H scope (compEnvC scope cl C X.env) fp) tg (RG g ts t))
    (ht : ∀ (s : Shared) (H : Hp) (C : Addr) (cl : List (Str × Addr)) (fp : List Addr), PTs (X.blk s H scope (compEnvC scope cl C X.env) fp) ifs (RT g Ex0 mc))
    (he : ∀ (s : Shared) (H : Hp) (C : Addr) (cl : List (Str × Addr)) (fp : List Addr), PE (X.blk s H scope (compEnvC scope cl C X.env) fp) elt (RE g Ex0 me)) (hs : ∀ x, foldedSetIterable iter X.env x = pure x) :
    PE X (.ListComp elt [⟨tg, iter, ifs, 0⟩] scope pos) (RN g E (nLc mi t mc me (own.map (·.2)))) := (pe_lc hc hN hi ok hg ht he hs).weak fun σ H Q ⟨F, st, w⟩ =>
  ⟨F, st, (RFw.bind (R := RIt g) w).mono fun J' H1 ⟨F1, J, st1, l1, its, w⟩ D hD => lc_core hts w.1 its hD w.2⟩
theorem dc_core {J : It} {J' : L2.It} {vs : List Nat} {st1 : Stt} {Q : VK} {D : Addr} (hts : ∀ j, j ∈ ts → j ∈ vs) (ok1 : FrOk g.K g.ca F1 st1 σ H1) (its : ItS g J J' F1 σ H1) (hD : H1 D = none)
    (w : Post g RNr E (if lcOk J vs st1 = true then (match dcGo J t mc mk me vs st1.tm.length (J.len st1) 0 (pushT (.dct []) st1) with
      | some s' => .ok st1.tm.length (resS vs st1 s')
      | none => .bad) else .bad) F1 σ H1 Q) :
    ∃ W : Nat → Nat → Hp → Prop, (∃ m, W 0 m (L2.upd H1 D (.dK []))) ∧ ∀ i m H, W i m H →
      (J'.stop i H ∧ Q (.ref D) H) ∨ (J'.go i H ∧ ∃ Nx : Hp → Prop, (∀ H', Nx H' → ∃ m', m' < m ∧ W (i + 1) m' H') ∧ ∀ x H', J'.yld i H x H' → RG g ts t x (L2.wipe σ vs) H' fun σ2 H2 => L2.wipe σ2 vs = L2.wipe σ vs ∧ RT g Ex0 mc σ2 H2 fun b H3 =>
      if b = true then RE g Ex0 mk σ2 H3 fun y H4 => RE g Ex0 me σ2 H4 fun z H5 => ∃ kvs k, y = kV k ∧ H5 D = some (.dK kvs) ∧ kvs.length < sizeLine ∧ Nx (L2.upd H5 D (.dK (putK kvs k z))) else Nx H3) := by
  split at w
  · rename_i hl
    obtain ⟨hl1, hl2⟩ := (Bool.and_eq_true _ _).mp hl
    have hl2' : ∀ i, i ∈ J.slots → i ∉ vs := fun i hi => by
      have := List.all_eq_true.mp hl2 i hi
      simpa using this
    generalize hG : dcGo J t mc mk me vs st1.tm.length (J.len st1) 0 (pushT (.dct []) st1) = G0 at w
    obtain ⟨lp, okp⟩ := ok1.push (p := D) (o := .dK []) (d := .dct []) hD ⟨[], upd_same, .nil⟩
    have tm0 : (F1.put st1.tm.length D).tm st1.tm.length = some D := by show (if _ = _ then some D else _) = _; rw [if_pos rfl]
    refine ⟨fun i m H => ∃ F2 s2, Lk (F1.put st1.tm.length D) (L2.upd H1 D (.dK [])) F2 H ∧ FrOk g.K g.ca F2 (wipeS vs s2) (L2.wipe σ vs) H ∧ dcGo J t mc mk me vs st1.tm.length m i s2 = G0, ⟨_, _, _, Lk.refl, okp.wipe vs, hG⟩, ?_⟩
    rintro i m H ⟨F2, s2, l2, ok2, w2⟩
    have l12 : Lk F1 H1 F2 H := lp.trans l2
    obtain ⟨go, stop⟩ := its F2 (wipeS vs s2) (L2.wipe σ vs) H l12.s ok2 (fun j hj => by rw [wipe_get, if_neg (fun z => hl2' j hj z.1)]) i
    rw [← w2] at w
    have fin : J.at i (wipeS vs s2) = some none → Post g RNr E (.ok st1.tm.length (resS vs st1 s2)) F1 σ H1 Q → J'.stop i H ∧ Q (.ref D) H := fun e w => ⟨stop e, w F2 (.ref D) H l12 (ok1.res l12.s ok2 hl1) ⟨D, rfl, l2.tmk _ _ tm0⟩⟩
    cases m with
    | zero =>
      unfold dcGo at w
      cases e : J.at i (wipeS vs s2) with
      | none => simp only [e] at w; exact w.elim
      | some o =>
        cases o with
        | none => simp only [e] at w; exact .inl (fin e w)
        | some x => simp only [e] at w; exact w.elim
    | succ m =>
      unfold dcGo at w w2
      cases e : J.at i (wipeS vs s2) with
      | none => simp only [e] at w; exact w.elim
      | some o =>
        cases o with
        | none => simp only [e] at w; exact .inl (fin e w)
        | some x =>
          simp only [e] at w w2
          obtain ⟨g1, g2⟩ := go x e
          refine .inr ⟨g1, fun H' => ∃ F2 s2, Lk (F1.put st1.tm.length D) (L2.upd H1 D (.dK [])) F2 H' ∧ FrOk g.K g.ca F2 (wipeS vs s2) (L2.wipe σ vs) H' ∧ dcGo J t mc mk me vs st1.tm.length m (i + 1) s2 = G0, fun H' q => ⟨m, Nat.lt_succ_self m, q⟩, fun v H'' y => ?_⟩
          obtain ⟨ly, oky, ry⟩ := g2 v H'' y
          cases et : t x (wipeS vs s2) with
          | none => simp only [et] at w; exact w.elim
          | some s3 =>
            simp only [et] at w w2
            refine ⟨F2, _, x, s3, oky, ry, et, fun σ3 ok3 c3 n3 => ?_⟩
            have ws := wipe_same c3 n3 hts
            refine ⟨ws, ?_⟩
            cases ec : mc s3 with
            | ok b s4 =>
              simp only [ec] at w w2
              refine ⟨F2, s3, RFw.pure_of ok3 ec fun F4 b' H4 l4 ok4 eb => ?_⟩
              cases eb
              cases b with
              | false =>
                simp only [Bool.false_eq_true, if_false] at w w2 ⊢
                exact ⟨F4, s4, (l2.trans ly).trans l4, by rw [← ws]; exact ok4.wipe vs, w2⟩
              | true =>
                simp only [if_true] at w w2 ⊢
                cases ek : mD false mk s4 with
                | ok kd s5 =>
                  simp only [ek] at w w2
                  refine ⟨F4, s4, mD_pure ok4 ek fun F5 kv H5 l5 ok5 r5 => ?_⟩
                  cases ee : mD false me s5 with
                  | ok yd s6 =>
                    simp only [ee] at w w2
                    refine ⟨F5, s5, mD_pure ok5 ee fun F6 yv H6 l6 ok6 r6 => ?_⟩
                    have l26 := (((l2.trans ly).trans l4).trans l5).trans l6
                    have tmD := l26.tmk _ _ tm0
                    obtain ⟨o5, e5, t5⟩ := ok6.tm _ _ tmD
                    cases o5 with
                    | dct acc =>
                      simp only [e5] at w w2
                      by_cases hz : acc.length < lim ∧ (keyD kd).isSome = true
                      · simp only [if_pos hz] at w w2
                        obtain ⟨av, h5, q5⟩ := t5
                        obtain ⟨kk, hkk⟩ := Option.isSome_iff_exists.mp hz.2
                        have ev := kV_key (.inl (Rep.lk l6 r5)) hkk
                        obtain ⟨l7, ok7⟩ := ok6.setT (d' := .dct (putD acc kd yd)) (o' := .dK (putK av kk yv)) tmD ⟨_, upd_same, q5.put hkk r6⟩
                        exact ⟨av, kk, ev, h5, by rw [← lim_eq, ← q5.length]; exact hz.1, F6, _, l26.trans l7, by rw [← ws]; exact ok7.wipe vs, w2⟩
                      · simp only [if_neg hz] at w
                        exact w.elim
                    | _ => first | (simp only [e5] at w; exact w.elim)
                  | exc c fs s6 => simp only [ee] at w; exact w.elim
                  | bad => simp only [ee] at w; exact w.elim
                | exc c fs s5 => simp only [ek] at w; exact w.elim
                | bad => simp only [ek] at w; exact w.elim
            | exc c fs s4 => simp only [ec] at w; exact w.elim
            | bad => simp only [ec] at w; exact w.elim
  · exact w.elim
theorem rn_dc (hc : X.calm = true) (hN : X.N.Nodup) (hi : PI X tg iter (RI g E mi)) (ok : BlkOk X.N X.env.scope scope own) (hts : ∀ j, j ∈ ts → j ∈ own.map (·.2))
    (hg : ∀ (s : Shared) (H : Hp) (C : Addr) (cl : List (Str × Addr)) (fp : List Addr), PG (X.blk s H scope (compEnvC scope cl C X.env) fp) tg (RG g ts t))
    (ht : ∀ (s : Shared) (H : Hp) (C : Addr) (cl : List (Str × Addr)) (fp : List Addr), PTs (X.blk s H scope (compEnvC scope cl C X.env) fp) ifs (RT g Ex0 mc))
    (hk : ∀ (s : Shared) (H : Hp) (C : Addr) (cl : List (Str × Addr)) (fp : List Addr), PE (X.blk s H scope (compEnvC scope cl C X.env) fp) kx (RE g Ex0 mk))
    (he : ∀ (s : Shared) (H : Hp) (C : Addr) (cl : List (Str × Addr)) (fp : List Addr), PE (X.blk s H scope (compEnvC scope cl C X.env) fp) elt (RE g Ex0 me)) (hs : ∀ x, foldedSetIterable iter X.env x = pure x) :
    PE X (.DictComp kx elt [⟨tg, iter, ifs, 0⟩] scope pos) (RN g E (nDc mi t mc mk me (own.map (·.2)))) := (pe_dc hc hN hi ok hg ht hk he hs).weak fun σ H Q ⟨F, st, w⟩ =>
  ⟨F, st, (RFw.bind (R := RIt g) w).mono fun J' H1 ⟨F1, J, st1, l1, its, w⟩ D hD => dc_core hts w.1 its hD w.2⟩
end
end Rf

set_option Elab.async false
set_option linter.all false
set_option maxRecDepth 100000
/-! Rf, part S: dicts walked (locked while they are). -/
namespace Rf
open PySem L2 PyProof.Rows

/-- where a dict stands: a slot, or a field of what a slot holds -/
abbrev MP := Stt → Option (Stt × List (D × D))
def pVar (i : Nat) : MP := fun s => match s.σ[i]? with
  | some (.val (.dct kvs)) => some (s, kvs)
  | some (.own (.dct kvs)) => some ({ s with σ := s.σ.set i (.val (.dct kvs)) }, kvs)
  | _ => none
def pFld (t : Gd) (f : Str) (i : Nat) : MP := fun s => match s.σ[i]? with
  | some (.val d) => (match unbox d s with
    | some (.ins c fs) => if t.okF c f = true then (match lookF f fs with
      | some (.dct kvs) => some (s, kvs)
      | _ => none) else none
    | _ => none)
  | _ => none
def nLcK (k : D → It) (mp : MP) (t : Tg) (c : M Bool) (e : M Hd) (vs : List Nat) : M Nat := fun s0 => match mp s0 with
  | some (s, kvs) => if lcOk (k (.dct kvs)) vs s = true then (match lcGo (k (.dct kvs)) t c e vs s.tm.length ((k (.dct kvs)).len s) 0 (pushT (.lst []) s) with
    | some s' => .ok s.tm.length (resS vs s s')
    | none => .bad) else .bad
  | none => .bad
def nDcK (k : D → It) (mp : MP) (t : Tg) (c : M Bool) (kx e : M Hd) (vs : List Nat) : M Nat := fun s0 => match mp s0 with
  | some (s, kvs) => if lcOk (k (.dct kvs)) vs s = true then (match dcGo (k (.dct kvs)) t c kx e vs s.tm.length ((k (.dct kvs)).len s) 0 (pushT (.dct []) s) with
    | some s' => .ok s.tm.length (resS vs s s')
    | none => .bad) else .bad
  | none => .bad
/-- no exception goes out -/
def noExc (m : MS) : MS := fun s => match m s with
  | .exc _ _ _ => .bad
  | r => r
def sForK (k : D → It) (mp : MP) (t : Tg) (body : MS) : MS := fun s0 => match mp s0 with
  | some (s, kvs) => noExc (forGo (k (.dct kvs)) t body ((k (.dct kvs)).len s) 0) s
  | none => .bad

section
variable {g : G} {X : Cx} {E : L2.WX} {F F1 F2 : Fm} {st st' : Stt} {σ : L2.St} {H H1 : Hp} {d : Addr} {od : Obj} {ks : List (Key × V)} {kvs : List (D × D)}
def Fm.lock (F : Fm) (d : Addr) (u : HO) : Fm := { F with He := fun a => if a = d then (match F.He d with | some _ => some u | none => none) else F.He a }
theorem Fm.lock_none {F : Fm} {u : HO} {a : Addr} : (F.lock d u).He a = none ↔ F.He a = none := by
  show (if a = d then _ else F.He a) = none ↔ _
  by_cases h : a = d
  · subst h
    rw [if_pos rfl]
    cases q : F.He a <;> simp
  · rw [if_neg h]
theorem Fm.lock_W {F : Fm} {u : HO} : (F.lock d u).W = F.W := rfl
theorem subB_lock {W : Addr → Prop} {u u' : HO} (e : H d = some u) (b : bareO u' = bareO u) : SubB (hide W H) (hide W (L2.upd H d u')) := fun a o h _ => by
  obtain ⟨n, h⟩ := hide_some.mp h
  by_cases q : a = d
  · subst q
    rw [e] at h; cases h
    exact ⟨u', hide_of n upd_same, b⟩
  · exact ⟨o, hide_of n (by rw [upd_ne q]; exact h), rfl⟩
theorem Top.monoB {K : PySem.W.Frag} {ca : CA} {ρ : List Addr} {Hh Hh' H H' : Hp} {a : Addr} {o : D} (h : Top K ca ρ Hh H a o) (s : SubB Hh Hh') (e : ∀ u, H a = some u → H' a = some u) : Top K ca ρ Hh' H' a o := by
  cases o <;> first | exact h.elim | skip
  · obtain ⟨vs, q, r⟩ := h; exact ⟨vs, e _ q, r.monoB s (List.prefix_refl _)⟩
  · obtain ⟨vs, q, r⟩ := h; exact ⟨vs, e _ q, r.monoB s (List.prefix_refl _)⟩
  · obtain ⟨dx, vs, q, r⟩ := h; exact ⟨dx, vs, e _ q, r.monoB s (List.prefix_refl _)⟩
theorem FrOk.lock {K : PySem.W.Frag} {ca : CA} (ok : FrOk K ca F st σ H) (nw : ¬ F.W d) (e : H d = some (.dK ks)) : FrOk K ca (F.lock d (.frz od (.dK ks))) st σ (L2.upd H d (.frz od (.dK ks))) := by
  have sb : SubB (hide F.W H) (hide F.W (L2.upd H d (.frz od (.dK ks)))) := subB_lock e rfl
  have nr : d ∉ F.ρ := fun z => nw (.inr (.inl z))
  have tp : ∀ {a x}, F.W a → Top K ca F.ρ (hide F.W H) H a x → Top K ca F.ρ (hide F.W (L2.upd H d (.frz od (.dK ks)))) (L2.upd H d (.frz od (.dK ks))) a x := fun {a x} wa t => t.monoB sb fun u q => by rw [upd_ne (fun z => nw (by rw [← z]; exact wa))]; exact q
  refine ⟨ok.len, fun i x q => let ⟨v, e1, r⟩ := ok.val i x q; ⟨v, e1, r.monoB sb (List.prefix_refl _)⟩, fun i x q => let ⟨a, e1, e2, t⟩ := ok.own i x q; ⟨a, e1, e2, tp (.inr (.inr (.inl ⟨i, e1⟩))) t⟩,
    fun j a q => let ⟨x, e1, t⟩ := ok.tm j a q; ⟨x, e1, tp (.inr (.inr (.inr ⟨j, q⟩))) t⟩, fun j a q => let ⟨x, e1, t⟩ := ok.box j a q; ⟨x, e1, tp (.inr (.inl (List.mem_of_getElem? q))) t⟩, ok.boxn, ok.nd, ok.ownI, ok.tmI, ok.ownT,
    fun i a q => let ⟨e1, e2, e3⟩ := ok.ownF i a q; ⟨Fm.lock_none.mpr e1, e2, by rw [upd_ne (fun z => nw (by rw [← z]; exact .inr (.inr (.inl ⟨i, q⟩))))]; exact e3⟩, fun j a q => let ⟨e1, e2⟩ := ok.tmF j a q; ⟨Fm.lock_none.mpr e1, e2⟩, fun a q => let ⟨e1, e2⟩ := ok.bF a q; ⟨by show Mu (if a = d then _ else F.He a); rw [if_neg (fun z => nw (.inl (by rw [← z]; exact q)))]; exact e1, e2⟩, fun a o q n nt => ?_, ok.pre0, fun a q n => Fm.lock_none.mpr (ok.new0 a q n), fun a h => dom_upd (ok.dom a fun z => h (Fm.lock_none.mpr z)), tabs_upd ok.tab e (fun _ z => (nomatch z)) (fun _ z => (nomatch z)), ok.slf⟩
  have q : (if a = d then (match F.He d with | some _ => some (HO.frz od (.dK ks)) | none => none) else F.He a) = some o := q
  by_cases h : a = d
  · subst h
    rw [if_pos rfl] at q
    cases z : F.He a with
    | none => rw [z] at q; cases q
    | some u => rw [z] at q; rw [upd_same]; exact q
  · rw [if_neg h] at q
    rw [upd_ne h]
    exact ok.mono a o q n nt
theorem FrOk.unlock {K : PySem.W.Frag} {ca : CA} (ok : FrOk K ca F st σ H) (nw : ¬ F.W d) (e : H d = some (.dK ks)) {H2 : Hp} {σ2 : L2.St} (ok2 : FrOk K ca F2 st' σ2 H2) (l : LkS (F.lock d (.frz od (.dK ks))) (L2.upd H d (.frz od (.dK ks))) F2 H2) :
    H2 d = some (.frz od (.dK ks)) ∧ LkS F H { F2 with He := F.He } (L2.upd H2 d (.dK ks)) ∧ FrOk K ca { F2 with He := F.He } st' σ2 (L2.upd H2 d (.dK ks)) ∧ SubB (hide F2.W H2) (hide F2.W (L2.upd H2 d (.dK ks))) := by
  obtain ⟨nw2, e2⟩ := hide_some.mp (l.sub d _ (hide_of (W := (F.lock d (.frz od (.dK ks))).W) nw upd_same) (fun _ z => nomatch z))
  have hE : ∀ a, F2.He a = none ↔ F.He a = none := fun a => by rw [l.He]; exact Fm.lock_none
  have sb : SubB (hide F2.W H2) (hide F2.W (L2.upd H2 d (.dK ks))) := subB_lock e2 rfl
  have tp : ∀ {a x}, F2.W a → Top K ca F2.ρ (hide F2.W H2) H2 a x → Top K ca F2.ρ (hide F2.W (L2.upd H2 d (.dK ks))) (L2.upd H2 d (.dK ks)) a x := fun {a x} wa t => t.monoB sb fun u q => by rw [upd_ne (fun z => nw2 (by rw [← z]; exact wa))]; exact q
  refine ⟨e2, ⟨l.B, rfl, l.r0, l.pre, fun a u h nt => ?_⟩, ?_, sb⟩
  · obtain ⟨n, h⟩ := hide_some.mp h
    by_cases q : a = d
    · subst q
      rw [e] at h; cases h
      exact hide_of nw2 upd_same
    · obtain ⟨n2, h2⟩ := hide_some.mp (l.sub a u (hide_of (W := (F.lock d (.frz od (.dK ks))).W) n (by rw [upd_ne q]; exact h)) nt)
      exact hide_of n2 (by rw [upd_ne q]; exact h2)
  · refine ⟨ok2.len, fun i x q => let ⟨v, e1, r⟩ := ok2.val i x q; ⟨v, e1, r.monoB sb (List.prefix_refl _)⟩, fun i x q => let ⟨a, e1, e2, t⟩ := ok2.own i x q; ⟨a, e1, e2, tp (.inr (.inr (.inl ⟨i, e1⟩))) t⟩,
      fun j a q => let ⟨x, e1, t⟩ := ok2.tm j a q; ⟨x, e1, tp (.inr (.inr (.inr ⟨j, q⟩))) t⟩, fun j a q => let ⟨x, e1, t⟩ := ok2.box j a q; ⟨x, e1, tp (.inr (.inl (List.mem_of_getElem? q))) t⟩, ok2.boxn, ok2.nd, ok2.ownI, ok2.tmI, ok2.ownT,
      fun i a q => let ⟨e1, e2, e3⟩ := ok2.ownF i a q; ⟨(hE a).mp e1, e2, by rw [upd_ne (fun z => nw2 (by rw [← z]; exact .inr (.inr (.inl ⟨i, q⟩))))]; exact e3⟩, fun j a q => let ⟨e1, e2⟩ := ok2.tmF j a q; ⟨(hE a).mp e1, e2⟩, fun a q => let ⟨e1, e2⟩ := ok2.bF a q; ⟨by
        have e1 : Mu (F2.He a) := e1
        rw [l.He] at e1
        have e1 : Mu (if a = d then _ else F.He a) := e1
        rw [if_neg (fun z => nw2 (.inl (by rw [← z]; exact q)))] at e1
        exact e1, e2⟩, fun a o q n nt => ?_, ok2.pre0, fun a q n => (hE a).mp (ok2.new0 a q n), fun a h => dom_upd (ok2.dom a fun z => h ((hE a).mp z)), tabs_upd ok2.tab e2 (fun _ z => (nomatch z)) (fun _ z => (nomatch z)), ok2.slf⟩
    have q : F.He a = some o := q
    by_cases h : a = d
    · subst h
      have z := ok.mono a o q (fun z => nw (.inr (.inl z))) nt
      rw [e] at z; cases z
      exact upd_same
    · rw [upd_ne h]
      refine ok2.mono a o ?_ n nt
      rw [l.He]
      show (if a = d then _ else F.He a) = some o
      rw [if_neg h]; exact q
theorem Post.unlock {r : Out Nat} {Q : VK} (ok : FrOk g.K g.ca F st σ H) (nw : ¬ F.W d) (e : H d = some (.dK ks)) (ne : ∀ c fs s, r ≠ .exc c fs s) (w : Post g RNr E r F σ H Q) :
    Post g RNr E r (F.lock d (.frz od (.dK ks))) σ (L2.upd H d (.frz od (.dK ks))) fun v H' => H' d = some (.frz od (.dK ks)) ∧ Q v (L2.upd H' d (.dK ks)) := by
  cases r with
  | ok j s' =>
    intro F' b H' l ok' ⟨a, ea, ta⟩
    obtain ⟨h1, h2, h3, _⟩ := ok.unlock nw e ok' l.s
    exact ⟨h1, w _ _ _ ⟨h2, l.tmk⟩ h3 ⟨a, ea, ta⟩⟩
  | exc c fs s => exact absurd rfl (ne c fs s)
  | bad => exact w
theorem RepK.get {K : PySem.W.Frag} {ca : CA} {ρ : List Addr} : ∀ {kvs : List (D × D)} {ks : List (Key × V)} {i : Nat} {p : D × D}, RepK K ca ρ H kvs ks → kvs[i]? = some p → ∃ k v, ks[i]? = some (k, v) ∧ keyD p.1 = some k ∧ Rep K ca ρ H p.2 v
  | _, _, _, _, .nil, e => by simp at e
  | _, _, 0, _, .cons hk h _, e => by simp at e; subst e; exact ⟨_, _, rfl, hk, h⟩
  | _, _, i + 1, _, .cons _ _ t, e => by
    obtain ⟨k, v, h1, h2, h3⟩ := t.get (i := i) (by simpa using e)
    exact ⟨k, v, by simpa using h1, h2, h3⟩
theorem keyD_rep {K : PySem.W.Frag} {ca : CA} {ρ : List Addr} {x : D} {k : Key} (h : keyD x = some k) : Rep K ca ρ H x (kV k) := by
  rcases keyD_kV h with ⟨i, rfl, rfl⟩ | ⟨z, rfl, rfl⟩
  · exact .int i
  · exact .str z
theorem itS_keys (nw : ¬ F.W d) (e : H d = some (.frz od (.dK ks))) (r : RepK g.K g.ca F.ρ (hide F.W H) kvs ks) : ItS g (.keys (.dct kvs)) (Itk d od ks) F σ H := fun F' st' σ' H' l ok _ i => by
  obtain ⟨nw', e'⟩ := hide_some.mp (l.sub d _ (hide_of nw e) (fun _ z => nomatch z))
  have r' := r.mono l.sub l.pre
  refine ⟨fun x q => ?_, fun q => ?_⟩
  · simp only [It.at, Option.some.injEq, Option.map_eq_some_iff] at q
    obtain ⟨p, q1, q2⟩ := q
    obtain ⟨k, v, h1, h2, h3⟩ := r'.get q1
    refine ⟨⟨e', (List.getElem?_eq_some_iff.mp h1).1⟩, fun u H'' ⟨y1, k', v', y2, y3⟩ => ?_⟩
    subst y1
    rw [h1] at y2; cases y2
    subst y3
    exact ⟨Lk.refl, ok, by rw [← q2]; exact keyD_rep h2⟩
  · simp only [It.at, Option.some.injEq, Option.map_eq_none_iff] at q
    exact ⟨e', by rw [← r.length]; exact List.getElem?_eq_none_iff.mp q⟩
/-- a path: its reading at a state is its dict -/
def PathOk (g : G) (X : Cx) (e : Expr) (mp : MP) : Prop := ∃ te : TE, PE X e te ∧ ∀ {F : Fm} {st st' : Stt} {σ : L2.St} {H : Hp} {kvs : List (D × D)}, FrOk g.K g.ca F st σ H → mp st = some (st', kvs) →
  ∃ F' d ks, Lk F H F' H ∧ FrOk g.K g.ca F' st' σ H ∧ Rd H d (.dK ks) ∧ ¬ F'.W d ∧ RepK g.K g.ca F'.ρ (hide F'.W H) kvs ks ∧ ∀ H', (∀ a u, a ≠ d → H a = some u → H' a = some u) → ∀ Q : VK, Q (.ref d) H' → te σ H' Q
theorem Rep.dct_vis {K : PySem.W.Frag} {ca : CA} {ρ : List Addr} {W : Addr → Prop} {v : V} (r : Rep K ca ρ (hide W H) (.dct kvs) v) : ∃ a ks, v = .ref a ∧ Rd H a (.dK ks) ∧ ¬ W a ∧ RepK K ca ρ (hide W H) kvs ks := by
  cases r with
  | @dct a ks _ h q =>
    refine ⟨a, ks, rfl, (hide_sub W H).b.dct h, ?_, q⟩
    rcases h with h | ⟨o, h⟩
    · exact (hide_some.mp h).1
    · exact (hide_some.mp h).1
theorem path_var {i : Nat} {x : Str} {pos : Pos} (hN : X.N[i]? = some x) (hv : Vis X.env.scope x) (hd : (x == ("__debug__" : Str)) = false) (hcd : (x == ("__classdict__" : Str)) = false) : PathOk g X (.Name x pos) (pVar i) := by
  refine ⟨_, pe_var hN hv hd hcd, fun {F st st' σ H kvs} ok e => ?_⟩
  unfold pVar at e
  split at e
  · rename_i kvs' q
    cases e
    obtain ⟨v, e1, r⟩ := ok.val i _ q
    obtain ⟨a, ks, ea, h1, h2, h3⟩ := r.dct_vis
    subst ea
    exact ⟨F, a, ks, Lk.refl, ok, h1, h2, h3, fun H' _ Q q => ⟨_, e1, q⟩⟩
  · rename_i kvs' q
    cases e
    obtain ⟨F', l, ok', r⟩ := ok.freeze q
    obtain ⟨v, e1, r'⟩ := ok'.val i (.dct kvs) (by
      show (st.σ.set i (.val (.dct kvs)))[i]? = _
      rw [List.getElem?_set_self (List.getElem?_eq_some_iff.mp q).1])
    obtain ⟨a, ks, ea, h1, h2, h3⟩ := r'.dct_vis
    subst ea
    exact ⟨F', a, ks, l, ok', h1, h2, h3, fun H' _ Q q => ⟨_, e1, q⟩⟩
  · cases e
theorem path_fld {i : Nat} {x f : Str} {p pos : Pos} (hK : X.K = g.K) (C : ClsF g) (hN : X.N[i]? = some x) (hv : Vis X.env.scope x) (hd : (x == ("__debug__" : Str)) = false) (hcd : (x == ("__classdict__" : Str)) = false)
    (hb : attributeBase (.Name x p) f X.env (eval (.Name x p) X.env) = eval (.Name x p) X.env) : PathOk g X (.Attribute (.Name x p) f pos) (pFld g.toGd f i) := by
  refine ⟨_, pe_fld (pe_var hN hv hd hcd) hb, fun {F st st' σ H kvs} ok e => ?_⟩
  unfold pFld at e
  split at e
  · rename_i dd q
    split at e
    · rename_i c fs q2
      split at e
      · rename_i hc
        split at e
        · rename_i kvs' q3
          cases e
          obtain ⟨v, e1, r⟩ := ok.val i _ q
          have rc := cont_rep (h := .d dd) ok (show RepH g.K g.ca F σ H (.d dd) v from r) q2
          obtain ⟨a, dx, vs, ea, h1, rf⟩ := rc.ins
          subst ea
          obtain ⟨w, e2, rw'⟩ := rf.look q3
          obtain ⟨b, ks, eb, h2, h3, h4⟩ := rw'.dct_vis
          subst eb
          obtain ⟨c1, c2⟩ := C.fld _ _ hc
          refine ⟨F, b, ks, Lk.refl, ok, h2, h3, h4, fun H' k Q q => ⟨_, e1, a, _, dx, vs, _, rfl, k a _ (fun z => ?_) h1, by rw [hK]; exact c1, by rw [hK]; exact c2, e2, q⟩⟩
          rw [z] at h1
          rcases h2 with h2 | ⟨o, h2⟩
          · rw [h1] at h2; cases h2
          · rw [h1] at h2; cases h2
        · cases e
      · cases e
    · cases e
  · cases e
theorem _root_.L2.PE.or {X : Cx} {e : Expr} {t t' : TE} (h : PE X e t) (h' : PE X e t') : PE X e (fun σ H Q => t σ H Q ∨ t' σ H Q) := ⟨fun pins s σ H Q I q => q.elim (h.run pins s σ H Q I) (h'.run pins s σ H Q I)⟩
theorem _root_.L2.PS.or {X : Cx} {e : Stmt} {t t' : TS} (h : PS X e t) (h' : PS X e t') : PS X e (fun D σ H => t D σ H ∨ t' D σ H) := ⟨fun pins s σ H D I q => q.elim (h.run pins s σ H D I) (h'.run pins s σ H D I)⟩
variable {elt kx tg iter : Expr} {ifs : List Expr} {scope : Scope} {own : List (Str × Nat)} {pos : Pos} {mp : MP} {ts : List Nat} {t : Tg} {mc : M Bool} {me mk : M Hd}
theorem rn_lcK (hc : X.calm = true) (hN : X.N.Nodup) (hp : PathOk g X iter mp) (ok : BlkOk X.N X.env.scope scope own) (hts : ∀ j, j ∈ ts → j ∈ own.map (·.2))
    (hg : ∀ (s : Shared) (H : Hp) (C : Addr) (cl : List (Str × Addr)) (fp : List Addr), PG (X.blk s H scope (compEnvC scope cl C X.env) fp) tg (RG g ts t))
    (ht : ∀ (s : Shared) (H : Hp) (C : Addr) (cl : List (Str × Addr)) (fp : List Addr), PTs (X.blk s H scope (compEnvC scope cl C X.env) fp) ifs (RT g Ex0 mc))
    (he : ∀ (s : Shared) (H : Hp) (C : Addr) (cl : List (Str × Addr)) (fp : List Addr), PE (X.blk s H scope (compEnvC scope cl C X.env) fp) elt (RE g Ex0 me)) (hs : ∀ x, foldedSetIterable iter X.env x = pure x) :
    PE X (.ListComp elt [⟨tg, iter, ifs, 0⟩] scope pos) (RN g E (nLcK .keys mp t mc me (own.map (·.2)))) := by
  obtain ⟨te, hte, hpath⟩ := hp
  have base := pe_lc (pos := pos) hc hN (pi_keys (tg := tg) hte) ok hg ht he hs
  refine ((pe_lock base).or base).weak fun σ H Q ⟨F, st, ok1, w⟩ => ?_
  unfold nLcK at w
  cases e : mp st with
  | none => simp only [e] at w; exact w.elim
  | some p =>
    obtain ⟨s, kvs⟩ := p
    simp only [e] at w
    obtain ⟨F1, d, ks, l1, ok1, rd, nw, r, ev⟩ := hpath ok1 e
    have w := Post.lk (g := g) l1 w
    generalize own.map (·.2) = vs at *
    have ne : ∀ c fs s2, (if lcOk (.keys (.dct kvs)) vs s = true then (match lcGo (.keys (.dct kvs)) t mc me vs s.tm.length (It.len (.keys (.dct kvs)) s) 0 (pushT (.lst []) s) with
      | some s' => Out.ok s.tm.length (resS vs s s')
      | none => .bad) else .bad) ≠ .exc c fs s2 := fun c fs s2 => by
      split
      · split <;> simp
      · simp
    rcases rd with hd | ⟨od, hd⟩
    · refine .inl ⟨d, _, hd, trivial, fun od => ?_⟩
      refine ev _ (fun a u n q => by rw [upd_ne n]; exact q) _ ⟨d, od, rfl, .inl ⟨ks, upd_same, fun D hD => ?_⟩⟩
      have w' := Post.unlock (od := od) ok1 nw hd ne w
      exact lc_core hts (ok1.lock nw hd) (itS_keys nw upd_same (r.monoB (subB_lock (u' := .frz od (.dK ks)) hd rfl) (List.prefix_refl _))) hD w'
    · refine .inr (ev H (fun a u _ q => q) _ ⟨d, od, rfl, .inl ⟨ks, hd, fun D hD => ?_⟩⟩)
      exact lc_core hts ok1 (itS_keys nw hd r) hD w
theorem rn_dcK (hc : X.calm = true) (hN : X.N.Nodup) (hp : PathOk g X iter mp) (ok : BlkOk X.N X.env.scope scope own) (hts : ∀ j, j ∈ ts → j ∈ own.map (·.2))
    (hg : ∀ (s : Shared) (H : Hp) (C : Addr) (cl : List (Str × Addr)) (fp : List Addr), PG (X.blk s H scope (compEnvC scope cl C X.env) fp) tg (RG g ts t))
    (ht : ∀ (s : Shared) (H : Hp) (C : Addr) (cl : List (Str × Addr)) (fp : List Addr), PTs (X.blk s H scope (compEnvC scope cl C X.env) fp) ifs (RT g Ex0 mc))
    (hk : ∀ (s : Shared) (H : Hp) (C : Addr) (cl : List (Str × Addr)) (fp : List Addr), PE (X.blk s H scope (compEnvC scope cl C X.env) fp) kx (RE g Ex0 mk))
    (he : ∀ (s : Shared) (H : Hp) (C : Addr) (cl : List (Str × Addr)) (fp : List Addr), PE (X.blk s H scope (compEnvC scope cl C X.env) fp) elt (RE g Ex0 me)) (hs : ∀ x, foldedSetIterable iter X.env x = pure x) :
    PE X (.DictComp kx elt [⟨tg, iter, ifs, 0⟩] scope pos) (RN g E (nDcK .keys mp t mc mk me (own.map (·.2)))) := by
  obtain ⟨te, hte, hpath⟩ := hp
  have base := pe_dc (pos := pos) hc hN (pi_keys (tg := tg) hte) ok hg ht hk he hs
  refine ((pe_lock base).or base).weak fun σ H Q ⟨F, st, ok1, w⟩ => ?_
  unfold nDcK at w
  cases e : mp st with
  | none => simp only [e] at w; exact w.elim
  | some p =>
    obtain ⟨s, kvs⟩ := p
    simp only [e] at w
    obtain ⟨F1, d, ks, l1, ok1, rd, nw, r, ev⟩ := hpath ok1 e
    have w := Post.lk (g := g) l1 w
    generalize own.map (·.2) = vs at *
    have ne : ∀ c fs s2, (if lcOk (.keys (.dct kvs)) vs s = true then (match dcGo (.keys (.dct kvs)) t mc mk me vs s.tm.length (It.len (.keys (.dct kvs)) s) 0 (pushT (.dct []) s) with
      | some s' => Out.ok s.tm.length (resS vs s s')
      | none => .bad) else .bad) ≠ .exc c fs s2 := fun c fs s2 => by
      split
      · split <;> simp
      · simp
    rcases rd with hd | ⟨od, hd⟩
    · refine .inl ⟨d, _, hd, trivial, fun od => ?_⟩
      refine ev _ (fun a u n q => by rw [upd_ne n]; exact q) _ ⟨d, od, rfl, .inl ⟨ks, upd_same, fun D hD => ?_⟩⟩
      have w' := Post.unlock (od := od) ok1 nw hd ne w
      exact dc_core hts (ok1.lock nw hd) (itS_keys nw upd_same (r.monoB (subB_lock (u' := .frz od (.dK ks)) hd rfl) (List.prefix_refl _))) hD w'
    · refine .inr (ev H (fun a u _ q => q) _ ⟨d, od, rfl, .inl ⟨ks, hd, fun D hD => ?_⟩⟩)
      exact dc_core hts ok1 (itS_keys nw hd r) hD w
end
end Rf

set_option Elab.async false
set_option linter.all false
set_option maxRecDepth 100000
/-! Rf, part T: own exceptions: made, raised, caught. -/
namespace L2
open PySem PySem.Spec PyProof.Rows
/-! ### several clauses, each with or without a name -/
inductive HC where
  | pl (c : Value) (ts : Addr → Value → Option Addr → TS)
  | as (c : Value) (i : Nat) (ts : Addr → Value → Option Addr → TS)
def wMix (K : PySem.W.Frag) (Wout : WX) (D : Ends) : List HC → WX
  | [] => Wout
  | .pl c ts :: r => fun cls d σ H => ∃ b, PySem.W.exmOne K cls c = some b ∧ (b = true → ∀ a, H a = none → ts a cls d D σ H) ∧ (b = false → wMix K Wout D r cls d σ H)
  | .as c i ts :: r => fun cls d σ H => ∃ b, PySem.W.exmOne K cls c = some b ∧ (b = true → ∀ a, H a = none → ts a cls d { nx := fun σ' H' => D.nx (σ'.set i none) H', rt := D.rt, bk := fun σ' H' => D.bk (σ'.set i none) H', ct := fun σ' H' => D.ct (σ'.set i none) H' } (σ.set i (some (.ref a))) H) ∧
    (b = false → wMix K Wout D r cls d σ H)
inductive HcsOk (X : Cx) : List ExceptHandler → List HC → Prop
  | nil : HcsOk X [] []
  | cons {x : Str} {c : Value} {ts : Addr → Value → Option Addr → TS} {b₀ : Stmt} {suite : List Stmt} {np pos' : Pos} {hds : List ExceptHandler} {l : List HC} (hc : Names X x c)
      (hsu : ∀ (a : Addr) (oe : Obj) (cls : Value) (d : Option Addr) (pn : List (Addr × Obj)), Zc cls d oe → (∃ vs, oe.data = .fields vs) → PSs (X.suite a ((a, oe) :: pn)) (b₀ :: suite) (ts a cls d)) (r : HcsOk X hds l) :
      HcsOk X (.ExceptHandler (some (.Name x np)) none (b₀ :: suite) pos' :: hds) (.pl c ts :: l)
  | consAs {x n : Str} {i : Nat} {c : Value} {ts : Addr → Value → Option Addr → TS} {b₀ : Stmt} {suite : List Stmt} {np pos' : Pos} {hds : List ExceptHandler} {l : List HC} (hc : Names X x c) (hi : X.N[i]? = some n) (hln : X.env.kindOf n = some .local)
      (hsu : ∀ (a : Addr) (oe : Obj) (cls : Value) (d : Option Addr) (pn : List (Addr × Obj)), Zc cls d oe → (∃ vs, oe.data = .fields vs) → PSs (X.suite a ((a, oe) :: pn)) (b₀ :: suite) (ts a cls d)) (r : HcsOk X hds l) :
      HcsOk X (.ExceptHandler (some (.Name x np)) (some n) (b₀ :: suite) pos' :: hds) (.as c i ts :: l)
section
variable {X : Cx} {body : List Stmt} {h₀ : ExceptHandler} {hds : List ExceptHandler} {l : List HC} {pos : Pos} {tb : WX → TS} {Wout : WX}
theorem ps_try_mix (hs : X.stack = X.env :: X.outer) (hf : X.env.frame = some X.env.locals) (hN : X.N.Nodup) (tk : Takes X Wout)
    (hb : ∀ (W : WX) (pn : List (Addr × Obj)) (xe : Value → Shared → Prop), Takes (X.tr pn xe) W → PassesOwn (model X.prog X.w) X.A X.env xe → PSs (X.tr pn xe) body (tb W))
    (hh : HcsOk X (h₀ :: hds) l) : PS X (.Try body (h₀ :: hds) [] [] pos) (fun D σ H => tb (wMix X.K Wout D l) D σ H) := by
  refine ⟨fun pins s σ H D I h => ?_⟩
  have ok := I.ok
  have hfr : X.A.frames = some (X.env :: X.outer) := by rw [ok.frames, hs]
  refine wpAny_Try_except ?_
  refine wpAny_mono ((hb (wMix X.K Wout D l) (X.pn ++ pins) (fun e s₁ => wpAny (model X.prog X.w) X.A (noteFrame e X.env) (fun _ s₂ => wpAny (model X.prog X.w) X.A (setFlight e none) (fun _ s₃ =>
    wpAny (model X.prog X.w) X.A (handleBy e X.env (h₀ :: hds)) (SP X pins D) X.xe s₃) X.xe s₂) X.xe s₁) (fun u s' xx => ?_) PassesOwn.looking).run [] s σ H D (I.toTry _) h) (fun f s1 hsp => ?_) (fun e s1 he => he)
  · obtain ⟨a, B, sI, pins', σ', H', cls, d, rfl, J', nb, up, sky, na, os, ag, w⟩ := xx
    have J : Inv X pins σ' H' sI := J'.ofTry ok
    have sky' : Sky B (X.env :: X.outer) a (Zc cls d) X.env.locals s'.heap := by rw [← hs]; exact sky
    show wpAny (model X.prog X.w) X.A (noteFrame (.ref a) X.env) _ _ _
    refine Sky.land Zc.steady hfr hf sky' fun h3 fl3 up3 => ?_
    have J3 : Inv X pins σ' H' { s' with heap := h3 } := J.landed nb fl3.1 (up.trans up3) os ag
    obtain ⟨oe3, vs3, he3, hz3, hd3⟩ := fl3.there
    have notFr : ∀ {h : Heap} {o : Obj} {vs : Array Value}, h.FunFrames B (X.env :: X.outer) → h.get? a = some o → o.data = .fields vs → a ∉ frs (X.env :: X.outer) := fun {h o vs} ff e dd hm => by
      obtain ⟨_, o', e', hnf⟩ := ff.mem hm
      rw [e] at e'; cases e'
      exact hnf _ dd
    have nfr := notFr fl3.2.2.1 he3 hd3
    have nL : a ≠ X.env.locals := fun z => nfr (List.mem_filterMap.mpr ⟨X.env, List.mem_cons_self, by rw [hf, z]⟩)
    have nF : a ∉ X.fs := fun hm => by
      obtain ⟨e, he, q⟩ := List.mem_filterMap.mp hm
      exact nfr (List.mem_filterMap.mpr ⟨e, List.mem_cons_of_mem _ he, q⟩)
    have S3 := J3.suite he3 hd3 na nL nF
    have tst : ∀ {x : Str} {c : Value} {np : Pos} {Q : Value → Shared → Prop} {E : Value → Shared → Prop}, Names X x c → Q c { s' with heap := h3 } → wpAny (model X.prog X.w) (X.A.mark (some (.ref a))) (eval (.Name x np) X.env) Q E { s' with heap := h3 } := fun {x c np Q E} hc q => by
      obtain ⟨hg, hdbg, hm | ⟨hm, hv, hnn⟩⟩ := hc
      · exact ld_glob (X := X.suite a ((a, oe3) :: (X.pn ++ pins))) S3 hg hm q hdbg
      · exact ld_blt (X := X.suite a ((a, oe3) :: (X.pn ++ pins))) S3 hg hm hv q hnn hdbg
    have LT : PySem.W.Looks (model X.prog X.w) h3 (typeOf (.ref a)) cls := fun A Q E s k q => wpAny_typeOf_ref (k _ _ he3) (by rw [hz3.1]; exact q)
    have go : ∀ {hds' : List ExceptHandler} {l' : List HC}, HcsOk X hds' l' → wMix X.K Wout D l' cls d σ' H' →
        wpAny (model X.prog X.w) X.A (handleBy (.ref a) X.env hds') (SP X pins D) X.xe { s' with heap := h3 } := by
      intro hds' l' hk
      induction hk with
      | nil =>
        intro w
        refine wpAny_handleBy_nil ?_
        obtain ⟨k1, k2, k3, oe, vs, T, oT, ts', he, hz, hd, h1, hr⟩ := id fl3
        unfold PySem.passOn
        refine wpAny_bind (wpAny_field he hd h1 ?_)
        rw [if_neg (show ¬ ((Value.ref T == Value.none) = true) from by simp)]
        have fin : wpAny (model X.prog X.w) X.A (setFlight (.ref a) X.env.frame) (fun _ s4 => wpAny (model X.prog X.w) X.A (throw (.ref a) : Sem Flow) (SP X pins D) X.xe s4) X.xe { s' with heap := h3 } := by
          rw [hf]
          refine HandSPX.setFlight_upZ fl3 fun h4 hh4 up4 => wpAny_throw (tk _ _ ?_)
          exact ⟨a, B, sI, pins, σ', H', cls, d, rfl, J, nb, (up.trans up3).trans up4, .inr (.inr (by rw [hs]; exact hh4)), na, os, ag, w⟩
        first
          | exact wpAny_bind (wpAny_pure (wpAny_bind fin))
          | exact wpAny_bind fin
      | @cons x c ts b₀ suite np pos' hds2 l2 hc hsu r ih =>
        intro w
        obtain ⟨b, hb1, hyes, hno⟩ := w
        refine wpAny_handleBy_cons (codeAny_handlers_test ?_) (by intro q; cases q)
        have LM := PySem.W.exm_one (M := model X.prog X.w) (J3.kIn) LT hb1
        refine tst hc (LM.here ?_)
        cases b with
        | true =>
          refine codeAny_handlers_suite ?_
          refine HandSPX.lands_againZ fl3 fun h4 fl4 up4 => ?_
          have J4 : Inv X pins σ' H' { s' with heap := h4 } := J.landed nb fl4.1 ((up.trans up3).trans up4) os ag
          obtain ⟨oe4, vs4, he4, hz4, hd4⟩ := fl4.there
          have S4 := J4.suite he4 hd4 na nL nF
          refine wpAny_mono ((hsu a oe4 cls d (X.pn ++ pins) hz4 ⟨_, hd4⟩).run [] _ _ H' _ S4 (hyes rfl a na)) (fun f s6 hsp => ?_) (fun _ _ z => False.elim z)
          cases f with
          | next =>
            obtain ⟨σ6, H6, S6, q6⟩ := hsp
            exact ⟨_, _, S6.unsuite ok, q6⟩
          | brk =>
            obtain ⟨σ6, H6, S6, q6⟩ := hsp
            exact ⟨_, _, S6.unsuite ok, q6⟩
          | cont =>
            obtain ⟨σ6, H6, S6, q6⟩ := hsp
            exact ⟨_, _, S6.unsuite ok, q6⟩
          | ret u =>
            obtain ⟨v6, σ6, H6, S6, r6, q6⟩ := hsp
            exact ⟨_, _, _, S6.unsuite ok, r6, q6⟩
        | false =>
          show wpAny _ X.A (handleBy (.ref a) X.env hds2) _ _ _
          exact ih (hno rfl)
      | @consAs x n i c ts b₀ suite np pos' hds2 l2 hc hi hln hsu r ih =>
        intro w
        obtain ⟨b, hb1, hyes, hno⟩ := w
        have hloc : Loc X.env.scope n := .inl hln
        refine wpAny_handleBy_cons (codeAny_handlers_test ?_) (by intro q; cases q)
        have LM := PySem.W.exm_one (M := model X.prog X.w) (J3.kIn) LT hb1
        refine tst hc (LM.here ?_)
        cases b with
        | true =>
          refine codeAny_handlers_suite_as ?_
          refine HandSPX.lands_againZ fl3 fun h4 fl4 up4 => ?_
          have J4 : Inv X pins σ' H' { s' with heap := h4 } := J.landed nb fl4.1 ((up.trans up3).trans up4) os ag
          obtain ⟨oe4, vs4, he4, hz4, hd4⟩ := fl4.there
          have S4 := J4.suite he4 hd4 na nL nF
          refine store_ok (X := X.suite a ((a, oe4) :: (X.pn ++ pins))) (v := .ref a) S4 hN hi hloc rfl (fun s5 S5 => ?_) (.inr hln)
          refine wpAny_mono ((hsu a oe4 cls d (X.pn ++ pins) hz4 ⟨_, hd4⟩).run [] s5 _ H' _ S5 (hyes rfl a na)) (fun f s6 hsp => ?_) (fun _ _ z => False.elim z)
          have end_ : ∀ {σ6 : St} {H6 : Hp} {Q : Shared → Prop}, Inv (X.suite a ((a, oe4) :: (X.pn ++ pins))) [] σ6 H6 s6 → (∀ s7, Inv X pins (σ6.set i none) H6 s7 → Q s7) →
              wpAny (model X.prog X.w) X.A (do bindName X.env n .none; unbindBehindTheSuite X.env n pos') (fun _ s7 => Q s7) X.xe s6 := fun {σ6 H6 Q} S6 hq => gone_ok (S6.unsuite ok) hN hi hln hq
          cases f with
          | next =>
            obtain ⟨σ6, H6, S6, q6⟩ := hsp
            exact end_ S6 fun s7 J7 => ⟨_, _, J7, q6⟩
          | brk =>
            obtain ⟨σ6, H6, S6, q6⟩ := hsp
            exact end_ S6 fun s7 J7 => ⟨_, _, J7, q6⟩
          | cont =>
            obtain ⟨σ6, H6, S6, q6⟩ := hsp
            exact end_ S6 fun s7 J7 => ⟨_, _, J7, q6⟩
          | ret u =>
            obtain ⟨v6, σ6, H6, S6, r6, q6⟩ := hsp
            exact end_ S6 fun s7 J7 => ⟨_, _, _, J7, r6, q6⟩
        | false =>
          show wpAny _ X.A (handleBy (.ref a) X.env hds2) _ _ _
          exact ih (hno rfl)
    exact go hh w
  · cases f with
    | next =>
      obtain ⟨σ', H', J', q⟩ := hsp
      exact wpAny_execs_nil ⟨σ', H', J'.ofTry ok, q⟩
    | brk =>
      obtain ⟨σ', H', J', q⟩ := hsp
      exact ⟨σ', H', J'.ofTry ok, q⟩
    | cont =>
      obtain ⟨σ', H', J', q⟩ := hsp
      exact ⟨σ', H', J'.ofTry ok, q⟩
    | ret u =>
      obtain ⟨v, σ', H', J', r, q⟩ := hsp
      exact ⟨v, σ', H', J'.ofTry ok, r, q⟩
end
end L2

set_option Elab.async false
set_option linter.all false
set_option maxRecDepth 100000
/-! Rf, part U: raise, try. -/
namespace Rf
open PySem L2 PyProof.Rows

/-- raise C(..): the fields by name -/
def sRaise (c : Nat) (fl : List Str) (m : M (List D)) : MS := sM m fun ds s => if ds.length = fl.length ∧ ds.length ≤ 100 then .exc c (fl.zip ds).reverse s else .bad
/-- an except clause's answer -/
inductive HE where
  | c (d : D) | fld (f : Str) | tup (hs : List HE)
mutual
def HE.ev : HE → List (Str × D) → Option D
  | .c d, _ => some d
  | .fld f, fs => lookF f fs
  | .tup hs, fs => (HE.evs hs fs).map .tup
def HE.evs : List HE → List (Str × D) → Option (List D)
  | [], _ => some []
  | h :: r, fs => (HE.ev h fs).bind fun d => (HE.evs r fs).map fun ds => d :: ds
end
/-- an except clause: its class; a suite, or an answer by the exception's fields -/
inductive Hk where
  | pl (c : Nat) (m : MS)
  | as (c i : Nat) (h : HE)
/-- a slot forgotten on our side -/
def noS (i : Nat) (s : Stt) : Stt := { s with σ := s.σ.set i .no }
def handle (sub : Nat → Nat → Option Bool) : List Hk → Nat → List (Str × D) → MS
  | [], c, fs => fun s => .exc c fs s
  | .pl h m :: r, c, fs => (match sub c h with
    | some true => m
    | some false => handle sub r c fs
    | none => fun _ => .bad)
  | .as h i e :: r, c, fs => (match sub c h with
    | some true => fun s => if c = h ∧ i < s.σ.length then (match e.ev fs with
      | some d => .rt d (noS i s)
      | none => .bad) else .bad
    | some false => handle sub r c fs
    | none => fun _ => .bad)
def sTry (sub : Nat → Nat → Option Bool) (mb : MS) (hs : List Hk) : MS := fun s => match mb s with
  | .exc c fs s' => handle sub hs c fs (clr s')
  | r => r

/-! ### __init__ of an exception: self.f = f, .. -/
def spX (C : Addr) (fl : List Str) : Sp := fun vs H Q _ => ∃ a ys, vs = .ref a :: ys ∧ ys.length = fl.length ∧ H a = some (exo a C none) ∧
  ∀ dx H', H dx = none → dx ≠ a → H' a = some (exo a C (some dx)) → H' dx = some (exd dx (fl.zip ys).reverse) → (∀ b, b ≠ a → b ≠ dx → H' b = H b) → Q .non H'
section
variable {g : G} {X : Cx} {E : L2.WX} {e : Expr} {es : List Expr} {m : M (List D)} {p pos pos2 : Pos} {c : Nat} {fl : List Str}
theorem RepF.zip {K : PySem.W.Frag} {ca : CA} {ρ : List Addr} {H : Hp} : ∀ {fl : List Str} {ds : List D} {vs : List V}, Reps K ca ρ H ds vs → RepF K ca ρ H (fl.zip ds) (fl.zip vs)
  | [], _, _, _ => by simp; exact .nil
  | _ :: _, _, _, .nil => by simp; exact .nil
  | _ :: _, _, _, .cons h t => .cons h (RepF.zip t)
theorem RepF.append {K : PySem.W.Frag} {ca : CA} {ρ : List Addr} {H : Hp} : ∀ {ds es : List (Str × D)} {vs us : List (Str × V)}, RepF K ca ρ H ds vs → RepF K ca ρ H es us → RepF K ca ρ H (ds ++ es) (vs ++ us)
  | _, _, _, _, .nil, r => r
  | _, _, _, _, .cons h t, r => .cons h (t.append r)
theorem RepF.reverse {K : PySem.W.Frag} {ca : CA} {ρ : List Addr} {H : Hp} : ∀ {ds : List (Str × D)} {vs : List (Str × V)}, RepF K ca ρ H ds vs → RepF K ca ρ H ds.reverse vs.reverse
  | _, _, .nil => .nil
  | _, _, .cons h t => by
    rw [List.reverse_cons, List.reverse_cons]
    exact t.reverse.append (.cons h .nil)
theorem rs_raise {CX : CXT} {x : Str} {fI : Addr} {k : Nat} {fd : FuncData} {ps : List Str} (hc : X.calm = true) (tk : Takes X E) (T : OexC X.K (g.ca.cl c)) (iC : PySem.W.findIn X.K (.ref (g.ca.cl c)) "__init__" = some (some (.ref fI))) (tI : PySem.W.typeIn X.K (.ref fI) = some (.type "function"))
    (F1 : FnOk X.prog X.w X.K X.mg X.base CX k fI fd ps (spX (g.ca.cl c) fl)) (hr : Room (k + 1) X.A) (hb : Binds X.K fd ps []) (hx : Passes CX X (fun _ _ _ => False)) (hg : Gl X x) (hm : X.mg x = some (.ref (g.ca.cl c))) (ha : PA X (e :: es) (RA g E m))
    (hdb : (x == ("__debug__" : Str)) = false) (he : starEach (e :: es) X.env = (false, eval e X.env) :: starEach es X.env) (hpl : (backTo pos (starEach es X.env)).any (·.1) = false) :
    PS X (.Raise (some (.Call (.Name x p) (e :: es) [] pos)) none pos2) (RS g E (sRaise c fl m)) :=
  (ps_raise hc tk (pmk_oex T iC tI F1 hr hb (Paired.nil) hx hg hm ha hdb he hpl)).weak fun D0 σ H ⟨F, st, w⟩ =>
  ⟨F, st, (RSw.m_bind (R := RL g) w).mono fun vs H1 ⟨F1, ds, st1, l1, r1, ok, w⟩ => by
    have hl := r1.length
    dsimp only at w
    split at w
    · rename_i hz
      refine ⟨by omega, fun a ha => ?_⟩
      refine ⟨a, vs ++ [], rfl, by rw [List.append_nil, ← hl]; exact hz.1, upd_same, fun dx H' n1 n2 e1 e2 e3 => ?_⟩
      rw [upd_ne n2] at n1
      rw [List.append_nil] at e2
      refine ⟨rfl, dx, _, e1, e2, n1, ?_⟩
      have eq : upd (del H' a) dx (.xd (fl.zip vs).reverse) = upd H1 dx (.xd (fl.zip vs).reverse) := by
        funext b
        by_cases h1 : b = dx
        · rw [h1, upd_same, upd_same]
        · rw [upd_ne h1, upd_ne h1]
          by_cases h2 : b = a
          · rw [h2, del_same, ha]
          · rw [del_ne h2, e3 b h2 h1, upd_ne h2]
      rw [eq]
      have lk := ok.lk_upd (o := .xd (fl.zip vs).reverse) n1
      refine w F1 σ _ dx lk.s (ok.upd n1) ⟨_, ok.seen n1, ?_⟩
      exact ((RepF.zip r1).reverse).lk lk
    · exact w.elim⟩
end

/-! ### the answers of except clauses -/
section
variable {g : G} {X : Cx} {a : Addr} {cls : Value} {d : Option Addr} {i c : Nat}
/-- an answer's reading in the suite; slot i: the exception; its class: c -/
def RX (g : G) (a : Addr) (cls : Value) (d : Option Addr) (i c : Nat) (h : HE) : TE := fun σ H Q => ∃ F st σf fs dx z, FrOk g.K g.ca F st σf H ∧ σ[i]? = some (some (.ref a)) ∧ cls = .ref (g.ca.cl c) ∧ d = some dx ∧ ExD g F H dx fs ∧ h.ev fs = some z ∧
  ∀ F' H' v, Lk F H F' H' → FrOk g.K g.ca F' st σf H' → Rep g.K g.ca F'.ρ (hide F'.W H') z v → Q v H'
def RXs (g : G) (a : Addr) (cls : Value) (d : Option Addr) (i c : Nat) (h : List HE) : TA := fun σ H Q => ∃ F st σf fs dx z, FrOk g.K g.ca F st σf H ∧ σ[i]? = some (some (.ref a)) ∧ cls = .ref (g.ca.cl c) ∧ d = some dx ∧ ExD g F H dx fs ∧ HE.evs h fs = some z ∧
  ∀ F' H' v, Lk F H F' H' → FrOk g.K g.ca F' st σf H' → Reps g.K g.ca F'.ρ (hide F'.W H') z v → Q v H'
theorem ExD.lk {F F' : Fm} {H H' : Hp} {dx : Addr} {fs : List (Str × D)} (l : LkS F H F' H') (e : ExD g F H dx fs) : ExD g F' H' dx fs := by
  obtain ⟨vs, h1, h2⟩ := e
  exact ⟨vs, l.sub.b.xd h1, h2.mono l.sub l.pre⟩
variable {e : Expr} {es : List Expr} {h : HE} {hs : List HE} {pos : Pos}
theorem rx_c {z : D} {v : V} (he : PE X e (tC v)) (r : ∀ ρ H, Rep g.K g.ca ρ H z v) : PE X e (RX g a cls d i c (.c z)) := he.weak fun σ H Q ⟨F, st, σf, fs, dx, z', ok, _, _, _, _, e, k⟩ => by
  cases e
  exact k F H v Lk.refl ok (r _ _)
theorem rx_fld {oe : Obj} {pn : List (Addr × Obj)} {n f : Str} {p : Pos} (T : XfC X.K (g.ca.cl c)) (hno : PySem.W.findIn X.K (.ref (g.ca.cl c)) f = some none) (hz : Zc cls d oe) (hf : ∃ vs, oe.data = .fields vs)
    (hN : X.N[i]? = some n) (hv : Vis X.env.scope n) (hd : (n == ("__debug__" : Str)) = false) (hcd : (n == ("__classdict__" : Str)) = false) (hb : attributeBase (.Name n p) f X.env (eval (.Name n p) X.env) = eval (.Name n p) X.env) :
    PE (X.suite a ((a, oe) :: pn)) (.Attribute (.Name n p) f pos) (RX g a cls d i c (.fld f)) :=
  (pe_xf (X := X) (cls := cls) (d := d) (pos := pos) (te := tVar i) T hno hz hf (pe_var (X := X.suite a ((a, oe) :: pn)) hN hv hd hcd) hb).weak fun σ H Q ⟨F, st, σf, fs, dx, z, ok, e1, e2, e3, ⟨vs, x1, x2⟩, e4, k⟩ => by
    have e4 : lookF f fs = some z := e4
    obtain ⟨w, l1, l2⟩ := x2.look e4
    exact ⟨_, e1, rfl, e2, dx, vs, w, e3, (hide_sub _ _).b.xd x1, l1, k F H w Lk.refl ok l2⟩
theorem rxs_nil : PA X [] (RXs g a cls d i c []) := pa_nil.weak fun σ H Q ⟨F, st, σf, fs, dx, z, ok, _, _, _, _, e, k⟩ => by
  cases e
  exact k F H [] Lk.refl ok .nil
theorem rxs_cons (h1 : PE X e (RX g a cls d i c h)) (h2 : PA X es (RXs g a cls d i c hs)) (hst : starEach (e :: es) X.env = (false, eval e X.env) :: starEach es X.env) : PA X (e :: es) (RXs g a cls d i c (h :: hs)) :=
  (pa_cons h1 h2 hst).weak fun σ H Q ⟨F, st, σf, fs, dx, z, ok, e1, e2, e3, x, e, k⟩ => by
    have e : (h.ev fs).bind (fun d => (HE.evs hs fs).map fun ds => d :: ds) = some z := e
    obtain ⟨d0, q1, q2⟩ := Option.bind_eq_some_iff.mp e
    obtain ⟨ds, q3, q4⟩ := Option.map_eq_some_iff.mp q2
    subst q4
    refine ⟨F, st, σf, fs, dx, d0, ok, e1, e2, e3, x, q1, fun F1 H1 v l1 ok1 r1 => ?_⟩
    refine ⟨F1, st, σf, fs, dx, ds, ok1, e1, e2, e3, x.lk l1.s, q3, fun F2 H2 vs l2 ok2 r2 => ?_⟩
    exact k F2 H2 _ (l1.trans l2) ok2 (.cons (Rep.lk l2 r1) r2)
theorem rx_tup {x1 : Nat} (h2 : PA X es (RXs g a cls d i c hs)) (hn : es.length ≤ 1000) (hl : hs.length ≤ 1000) : PE X (.Tuple es x1 pos) (RX g a cls d i c (.tup hs)) := (pe_tup h2).weak fun σ H Q ⟨F, st, σf, fs, dx, z, ok, e1, e2, e3, x, e, k⟩ => by
  have e : (HE.evs hs fs).map D.tup = some z := e
  obtain ⟨ds, q1, q2⟩ := Option.map_eq_some_iff.mp e
  subst q2
  have len : ∀ {hs : List HE} {ds : List D}, HE.evs hs fs = some ds → ds.length = hs.length := by
    intro hs
    induction hs with
    | nil => intro ds q; cases q; rfl
    | cons h r ih =>
      intro ds q
      have q : (h.ev fs).bind (fun d => (HE.evs r fs).map fun ds => d :: ds) = some ds := q
      obtain ⟨d0, q1, q2⟩ := Option.bind_eq_some_iff.mp q
      obtain ⟨ds', q3, q4⟩ := Option.map_eq_some_iff.mp q2
      subst q4
      rw [List.length_cons, List.length_cons, ih q3]
  refine ⟨F, st, σf, fs, dx, ds, ok, e1, e2, e3, x, q1, fun F1 H1 vs l1 ok1 r1 => ⟨?_, fun p hp => ?_⟩⟩
  · rw [← r1.length, len q1, sizeLine_eq]; omega
  · have l := ok1.lk_upd (o := .tup vs) hp
    exact k F1 _ _ (l1.trans l) (ok1.upd hp) (.tup (SqT.of (ok1.seen hp)) (r1.lk l))
/-- `except C as n: return answer` -/
theorem rx_ret {x1 : PySem.Pos} (h1 : PE X e (RX g a cls d i c h)) : PSs X [.Return (some e) x1] (fun D0 σ H => RX g a cls d i c h σ H D0.rt) := pss_one ((ps_ret h1).weak fun D0 σ H w => w)
end

/-! ### try -/
/-- what is known of exceptions' classes: which is one of which -/
def XSub (g : G) (sub : Nat → Nat → Option Bool) : Prop := ∀ c h b, sub c h = some b → PySem.W.exmOne g.K (.ref (g.ca.cl c)) (.ref (g.ca.cl h)) = some b
inductive HksOk (g : G) (E : L2.WX) (X : Cx) : List ExceptHandler → List Hk → Prop
  | nil : HksOk g E X [] []
  | cons {x : Str} {h : Nat} {m : MS} {b₀ : Stmt} {suite : List Stmt} {np pos' : Pos} {hds : List ExceptHandler} {l : List Hk} (hc : Names X x (.ref (g.ca.cl h)))
      (hsu : ∀ (a : Addr) (oe : Obj) (cls : Value) (d : Option Addr) (pn : List (Addr × Obj)), Zc cls d oe → (∃ vs, oe.data = .fields vs) → PSs (X.suite a ((a, oe) :: pn)) (b₀ :: suite) (RS g E m)) (r : HksOk g E X hds l) :
      HksOk g E X (.ExceptHandler (some (.Name x np)) none (b₀ :: suite) pos' :: hds) (.pl h m :: l)
  | consAs {x n : Str} {i h : Nat} {he : HE} {b₀ : Stmt} {suite : List Stmt} {np pos' : Pos} {hds : List ExceptHandler} {l : List Hk} (hc : Names X x (.ref (g.ca.cl h))) (hi : X.N[i]? = some n) (hln : X.env.kindOf n = some .local)
      (hsu : ∀ (a : Addr) (oe : Obj) (cls : Value) (d : Option Addr) (pn : List (Addr × Obj)), Zc cls d oe → (∃ vs, oe.data = .fields vs) → PSs (X.suite a ((a, oe) :: pn)) (b₀ :: suite) (fun D0 σ H => RX g a cls d i h he σ H D0.rt)) (r : HksOk g E X hds l) :
      HksOk g E X (.ExceptHandler (some (.Name x np)) (some n) (b₀ :: suite) pos' :: hds) (.as h i he :: l)
theorem FrOk.setno {K : PySem.W.Frag} {ca : CA} {F : Fm} {st : Stt} {σ : L2.St} {H : Hp} (ok : FrOk K ca F st σ H) (i : Nat) (v : Option V) : FrOk K ca F (noS i st) (σ.set i v) H := by
  refine ⟨by simpa [noS] using ok.len, fun j x q => ?_, fun j x q => ?_, ok.tm, ok.box, ok.boxn, ok.nd, ok.ownI, ok.tmI, ok.ownT, ok.ownF, ok.tmF, ok.bF, ok.mono, ok.pre0, ok.new0, ok.dom, ok.tab, fun x p e q => (Sl_set (j := 0) q).elim (fun z => nomatch z.2) fun z => ok.slf x p e z.2⟩
  · have q : (st.σ.set i .no)[j]? = some (.val x) := q
    rcases Sl_set q with ⟨e, q⟩ | ⟨hj', q⟩
    · cases q
    · obtain ⟨w, h1, h2⟩ := ok.val j x q
      exact ⟨w, by rw [List.getElem?_set_ne (Ne.symm hj')]; exact h1, h2⟩
  · have q : (st.σ.set i .no)[j]? = some (.own x) := q
    rcases Sl_set q with ⟨e, q⟩ | ⟨hj', q⟩
    · cases q
    · obtain ⟨b, h1, h2, h3⟩ := ok.own j x q
      exact ⟨b, h1, by rw [List.getElem?_set_ne (Ne.symm hj')]; exact h2, h3⟩
section
variable {g : G} {X : Cx} {E : L2.WX} {sub : Nat → Nat → Option Bool}
theorem hks_hcs {hds : List ExceptHandler} {l : List Hk} (h : HksOk g E X hds l) : ∃ l', HcsOk X hds l' ∧ ∀ (D0 : Ends) (c : Nat) (fs : List (Str × D)) (st : Stt) (F : Fm) (σ : L2.St) (H : Hp) (dx : Addr) (K : PySem.W.Frag), K = g.K → XSub g sub → FrOk g.K g.ca F st σ H → ExD g F H dx fs →
    PostS g E (handle sub l c fs st) F H D0 → wMix K E D0 l' (.ref (g.ca.cl c)) (some dx) σ H := by
  induction h with
  | nil => exact ⟨[], .nil, fun D0 c fs st F σ H dx K eK hs ok x w => w F σ H dx LkS.refl ok x⟩
  | @cons x h m b₀ suite np pos' hds l hc hsu r ih =>
    obtain ⟨l', k1, k2⟩ := ih
    refine ⟨_, .cons hc hsu k1, fun D0 c fs st F σ H dx K eK hs ok x w => ?_⟩
    unfold handle at w
    cases e : sub c h with
    | none => simp only [e] at w; exact w.elim
    | some b =>
      simp only [e] at w
      refine ⟨b, by rw [eK]; exact hs c h b e, fun hb a na => ?_, fun hb => ?_⟩
      · subst hb
        exact ⟨F, st, ok, w⟩
      · subst hb
        exact k2 D0 c fs st F σ H dx K eK hs ok x w
  | @consAs x n i h he b₀ suite np pos' hds l hc hi hln hsu r ih =>
    obtain ⟨l', k1, k2⟩ := ih
    refine ⟨_, .consAs hc hi hln hsu k1, fun D0 c fs st F σ H dx K eK hs ok x w => ?_⟩
    unfold handle at w
    cases e : sub c h with
    | none => simp only [e] at w; exact w.elim
    | some b =>
      simp only [e] at w
      refine ⟨b, by rw [eK]; exact hs c h b e, fun hb a na => ?_, fun hb => ?_⟩
      · subst hb
        dsimp only at w
        by_cases ec : c = h ∧ i < st.σ.length
        · obtain ⟨ec, hl⟩ := ec
          subst ec
          rw [if_pos ⟨rfl, hl⟩] at w
          cases ev : he.ev fs with
          | none => simp only [ev] at w; exact w.elim
          | some z =>
            simp only [ev] at w
            rw [ok.len] at hl
            exact ⟨F, _, _, fs, dx, z, ok.setno i (some (.ref a)), by rw [List.getElem?_set_self hl], rfl, rfl, x, ev, fun F' H' v l' ok' r => w F' _ v H' l'.s ok' r⟩
        · rw [if_neg ec] at w; exact w.elim
      · subst hb
        exact k2 D0 c fs st F σ H dx K eK hs ok x w
theorem rs_try {h₀ : ExceptHandler} {hds : List ExceptHandler} {l : List Hk} {body : List Stmt} {mb : MS} {pos : Pos} (hK : X.K = g.K) (hsub : XSub g sub) (hs : X.stack = X.env :: X.outer) (hf : X.env.frame = some X.env.locals) (hN : X.N.Nodup) (tk : Takes X E)
    (hb : ∀ (W : WX) (pn : List (Addr × Obj)) (xe : Value → Shared → Prop), Takes (X.tr pn xe) W → PassesOwn (model X.prog X.w) X.A X.env xe → PSs (X.tr pn xe) body (RS g W mb))
    (hh : HksOk g E X (h₀ :: hds) l) : PS X (.Try body (h₀ :: hds) [] [] pos) (RS g E (sTry sub mb l)) := by
  obtain ⟨l', k1, k2⟩ := hks_hcs (sub := sub) hh
  refine (ps_try_mix hs hf hN tk hb k1).weak fun D0 σ H ⟨F, st, ok, w⟩ => ⟨F, st, ok, ?_⟩
  unfold sTry at w
  cases e : mb st with
  | nx s => rw [e] at w; exact w
  | rt d s => rw [e] at w; exact w
  | bk s => rw [e] at w; exact w
  | ct s => rw [e] at w; exact w
  | bad => rw [e] at w; exact w
  | exc c fs s =>
    rw [e] at w
    intro F' σ' H' dx lk ok' x
    obtain ⟨l2, ok2⟩ := ok'.clr
    exact k2 D0 c fs (clr s) F'.clr σ' H' dx X.K hK hsub ok2 (x.lk l2) (PostS.lk (lk.trans l2) w)
end
end Rf

set_option Elab.async false
set_option linter.all false
set_option maxRecDepth 100000
/-! Rf, part V: exceptions' __init__; methods; new instances. -/
namespace Rf
open PySem L2 PyProof.Rows

theorem passX0 {X : Cx} : Passes (L2.CX X.prog X.w) X (fun _ _ _ => False) := fun pins σ H s e s' I ⟨_, _, _, _, _, _, _, _, _, _, _, _, z⟩ => z.elim
section
variable {P : Program} {w : World} {K : PySem.W.Frag} {mg : Str → Option Value} {base : Heap} {C f : Addr} {fd : FuncData} {st : Stmt} {nm qual s p1 p2 f1 f2 : Str} {k : Nat}
theorem ok_x1 (F : Fun K nm qual st f fd) (S : FnScope [s, p1] [s, p1] (defScope st)) {q1 q2 q3 q4 : Pos} (hb : defBody st = [.Assign [.Attribute (.Name s q1) f1 q2] (.Name p1 q3) q4]) (T : OexC K C) (n1 : PySem.W.findIn K (.ref C) f1 = some none)
    (v0 : Vis (defScope st) s) (v1 : Vis (defScope st) p1) (d0 : (s == ("__debug__" : Str)) = false) (d1 : (p1 == ("__debug__" : Str)) = false) (c0 : (s == ("__classdict__" : Str)) = false) (c1 : (p1 == ("__classdict__" : Str)) = false) :
    FnOk P w K mg base (L2.CX P w) (k + 1) f fd [s, p1] (spX C [f1]) := by
  refine F.okX S (fun vs H Q E h => ?_) (fun cdv A outer s H vs Q E hr h => ⟨tOst K f1 (tVar 0) (tVar 1), ?_, ?_⟩)
  · obtain ⟨a, ys, rfl, hl, _⟩ := h
    simp at hl ⊢; exact hl
  · rw [hb]
    exact pss_one (ps_ost (pe_var rfl v0 d0 c0) (pe_var rfl v1 d1 c1) rfl)
  · obtain ⟨a, ys, rfl, hl, ha, q⟩ := h
    cases ys with
    | nil => simp at hl
    | cons y1 ys =>
      cases ys with
      | cons _ _ => simp at hl
      | nil =>
        refine ⟨y1, rfl, .ref a, rfl, a, C, rfl, T, n1, .inl ⟨ha, fun dx n ne => ?_⟩⟩
        refine q dx _ n ne upd_same (by rw [upd_ne ne, upd_same]; rfl) fun b h1 h2 => by rw [upd_ne h1, upd_ne h2]
theorem ok_x2 (F : Fun K nm qual st f fd) (S : FnScope [s, p1, p2] [s, p1, p2] (defScope st)) {q1 q2 q3 q4 r1 r2 r3 r4 : Pos} (hb : defBody st = [.Assign [.Attribute (.Name s q1) f1 q2] (.Name p1 q3) q4, .Assign [.Attribute (.Name s r1) f2 r2] (.Name p2 r3) r4]) (T : OexC K C) (n1 : PySem.W.findIn K (.ref C) f1 = some none) (n2 : PySem.W.findIn K (.ref C) f2 = some none)
    (v0 : Vis (defScope st) s) (v1 : Vis (defScope st) p1) (v2 : Vis (defScope st) p2) (d0 : (s == ("__debug__" : Str)) = false) (d1 : (p1 == ("__debug__" : Str)) = false) (d2 : (p2 == ("__debug__" : Str)) = false) (c0 : (s == ("__classdict__" : Str)) = false) (c1 : (p1 == ("__classdict__" : Str)) = false) (c2 : (p2 == ("__classdict__" : Str)) = false) :
    FnOk P w K mg base (L2.CX P w) (k + 1) f fd [s, p1, p2] (spX C [f1, f2]) := by
  refine F.okX S (fun vs H Q E h => ?_) (fun cdv A outer s H vs Q E hr h => ⟨tSeq (tOst K f1 (tVar 0) (tVar 1)) (tOst K f2 (tVar 0) (tVar 2)), ?_, ?_⟩)
  · obtain ⟨a, ys, rfl, hl, _⟩ := h
    simp at hl ⊢; exact hl
  · rw [hb]
    exact pss_cons (ps_ost (pe_var rfl v0 d0 c0) (pe_var rfl v1 d1 c1) rfl) (pss_one (ps_ost (pe_var rfl v0 d0 c0) (pe_var rfl v2 d2 c2) rfl))
  · obtain ⟨a, ys, rfl, hl, ha, q⟩ := h
    match ys, hl with
    | [y1, y2], _ =>
      refine ⟨y1, rfl, .ref a, rfl, a, C, rfl, T, n1, .inl ⟨ha, fun dx n ne => ?_⟩⟩
      refine ⟨y2, rfl, .ref a, rfl, a, C, rfl, T, n2, .inr ⟨dx, _, upd_same, by rw [upd_ne ne, upd_same], by simp, ?_⟩⟩
      refine q dx _ n ne (by rw [upd_ne (Ne.symm ne), upd_same]) upd_same fun b h1 h2 => by rw [upd_ne h2, upd_ne h1, upd_ne h2]
end

/-! ### C(..): __init__ has self alone -/
inductive OutI where
  | ok (fs : List (Str × D)) (hs : List D) | exc (c : Nat) (fs : List (Str × D)) (hs : List D) | bad
structure CLkI (ρ : List Addr) (H : Hp) (ρ' : List Addr) (H' : Hp) (x : Addr) : Prop where
  pre : ρ <+: ρ'
  new : ∀ a, a ∈ ρ' → a ∉ ρ → H a = none
  step : ∀ a o, H a = some o → a ∉ ρ → NT o → a ≠ x → H' a = some o
  dom : ∀ a, H a ≠ none → H' a ≠ none
def PostI (g : G) (r : OutI) (c : Nat) (B : Addr → Prop) (ρ : List Addr) (x : Addr) (H : Hp) (Q : VK) (E : XK) : Prop := match r with
  | .ok fs hs' => ∀ ρ' H', CLkI ρ H ρ' H' x → BoxOk g B ρ' hs' H' → Top g.K g.ca ρ' (hide (WBox B ρ') H') H' x (.ins c fs) → Q .non H'
  | .exc c' fs hs' => ∀ ρ' H' d o, CLkI ρ H ρ' H' x → BoxOk g B ρ' hs' H' → Top g.K g.ca ρ' (hide (WBox B ρ') H') H' x o → (∃ vs, hide (WBox B ρ') H' d = some (.xd vs) ∧ RepF g.K g.ca ρ' (hide (WBox B ρ') H') fs vs) → E (.ref (g.ca.cl c')) (some d) H'
  | .bad => False
def spI (g : G) (c n : Nat) (run : List D → List D → OutI) : Sp := fun vs H Q E => vs.length = n ∧ ∃ B ρ hs ds x dx us, vs = .ref x :: us ∧ B x ∧ BoxOk g B ρ hs H ∧ H x = some (.ins (g.ca.cl c) dx []) ∧ Reps g.K g.ca ρ (hide (WBox B ρ) H) ds us ∧ PostI g (run ds hs) c B ρ x H Q E
def startI (N n c : Nat) (ds hs : List D) : Stt := ⟨(Sl.own (.ins c []) :: ds.map Sl.val) ++ List.replicate (N - n) Sl.no, hs, []⟩
def selfI (c : Nat) (s : Stt) : OutI := match (s.σ[0]? : Option Sl) with
  | some (.own (.ins c' fs)) => if c' = c then .ok fs s.hs else .bad
  | _ => .bad
def runI (N n c : Nat) (m : MS) (ds hs : List D) : OutI := match m (startI N n c ds hs) with
  | .nx s => selfI c s
  | .rt .non s => selfI c s
  | .exc c' fs s => (match (s.σ[0]? : Option Sl) with
    | some (.own _) => .exc c' fs s.hs
    | _ => .bad)
  | _ => .bad
abbrev Oi := Nat → List D → List D → OutI
/-- a new instance, fresh -/
def nNew (oi : Oi) (c n : Nat) (m : M (List D)) : M Nat := bnd m fun ds s => if ds.length + 1 = n then (match oi c ds s.hs with
  | .ok fs hs => .ok s.tm.length { s with hs := hs, tm := s.tm ++ [.ins c fs] }
  | .exc c' fs hs => .exc c' fs { s with hs := hs }
  | .bad => .bad) else .bad
/-- .. of a class without __init__ -/
def nNew0 (c : Nat) : M Nat := fresh (.ins c [])
section
variable {g : G} {F : Fm} {st : Stt} {σ : L2.St} {H H' : Hp}
theorem FrOk.backI (ok : FrOk g.K g.ca F st σ H) {j : Nat} {x : Addr} {o : D} {ρ' : List Addr} {hs' : List D} (hj : F.tm j = some x) (k : CLkI F.ρ H ρ' H' x) (b : BoxOk g F.Bc ρ' hs' H') (t : Top g.K g.ca ρ' (hide (WBox F.Bc ρ') H') H' x o) :
    Lk F H { F with ρ := ρ' } H' ∧ FrOk g.K g.ca { F with ρ := ρ' } { st with hs := hs', tm := st.tm.set j o } σ H' := by
  have nx : ∀ {a}, ¬ F.W a → a ≠ x := fun n z => n (by rw [z]; exact .inr (.inr (.inr ⟨j, hj⟩)))
  have l : Lk F H { F with ρ := ρ' } H' := ⟨⟨rfl, rfl, rfl, k.pre, fun a u h nt => by
    obtain ⟨n, h⟩ := hide_some.mp h
    have nr : a ∉ F.ρ := fun z => n (.inr (.inl z))
    refine hide_of (fun w => ?_) (k.step a u h nr nt (nx n))
    rcases w with w | w | w
    · exact n (.inl w)
    · rw [k.new a w nr] at h; cases h
    · exact n (.inr (.inr w))⟩, fun _ _ h => h⟩
  have e : WBox F.Bc ρ' = Fm.W { F with ρ := ρ' } := (Fm.W_eq { F with ρ := ρ' }).symm
  have sub : ∀ a, a ∈ F.ρ → a ∈ ρ' := fun a h => by obtain ⟨t, rfl⟩ := k.pre; exact List.mem_append_left _ h
  obtain ⟨oj, ej, tj⟩ := ok.tm j x hj
  have jl := (List.getElem?_eq_some_iff.mp ej).1
  have hx := ok.tmF j x hj
  refine ⟨l, ok.len, fun i d h => let ⟨v, e1, r⟩ := ok.val i d h; ⟨v, e1, r.lk l⟩, fun i o h => ?_, fun j' a h => ?_, fun i a h => by rw [← e]; exact b.box i a h, b.boxn, b.nd, ok.ownI, ok.tmI, ok.ownT,
    fun i a h => ⟨(ok.ownF i a h).1, (b.bF a (.inr (.inl ⟨i, h⟩))).2, (b.bF a (.inr (.inl ⟨i, h⟩))).1⟩, fun j a h => ⟨(ok.tmF j a h).1, (b.bF a (.inr (.inr ⟨j, h⟩))).2⟩, fun a h => ⟨(ok.bF a h).1, (b.bF a (.inl h)).2⟩,
    fun a o h n q => k.step a o (ok.mono a o h (fun z => n (sub a z)) q) (fun z => n (sub a z)) q (fun z => by rw [z, hx.1] at h; cases h), ok.pre0.trans k.pre, fun a h n => ?_, fun a h => k.dom a (ok.dom a h), b.tab, ok.slf⟩
  · obtain ⟨a, e1, e2, t⟩ := ok.own i o h
    exact ⟨a, e1, e2, t.mono l.sub k.pre fun u q => k.step a u q (ok.ownF i a e1).2.1 (t.ntu q) (fun z => by rw [z] at e1; exact ok.ownT i j x e1 hj)⟩
  · by_cases hjj : j' = j
    · subst hjj
      rw [hj] at h; cases h
      exact ⟨o, by show (st.tm.set j' o)[j']? = some o; rw [List.getElem?_set_self jl], by rw [← e]; exact t⟩
    · obtain ⟨o', e1, t⟩ := ok.tm j' a h
      exact ⟨o', by show (st.tm.set j o)[j']? = some o'; rw [List.getElem?_set_ne (Ne.symm hjj)]; exact e1, t.mono l.sub k.pre fun u q => k.step a u q (ok.tmF j' a h).2 (t.ntu q) (fun z => hjj (by rw [z] at h; exact ok.tmI j' j x h hj))⟩
  · by_cases z : a ∈ F.ρ
    · exact ok.new0 a z n
    · have h0 := k.new a h z
      show F.He a = none
      cases q : F.He a with
      | none => rfl
      | some o => exact absurd h0 (ok.dom a (by rw [q]; simp))
theorem start_I {N n c : Nat} {ds hs : List D} {i : Nat} {s : Sl} (h : (startI N n c ds hs).σ[i]? = some s) : (i = 0 ∧ s = .own (.ins c [])) ∨ (∃ j d, i = j + 1 ∧ s = .val d ∧ ds[j]? = some d) ∨ s = .no := by
  cases i with
  | zero => exact .inl ⟨rfl, (Option.some.inj h).symm⟩
  | succ j =>
    have h : (ds.map Sl.val ++ List.replicate (N - n) Sl.no)[j]? = some s := h
    by_cases hl : j < ds.length
    · rw [List.getElem?_append_left (by simpa using hl), List.getElem?_map, List.getElem?_eq_getElem hl] at h
      exact .inr (.inl ⟨j, ds[j], rfl, (Option.some.inj h).symm, List.getElem?_eq_getElem hl⟩)
    · rw [List.getElem?_append_right (by simpa using hl), List.getElem?_replicate] at h
      split at h
      · exact .inr (.inr (Option.some.inj h).symm)
      · cases h
theorem bodyI_sp {N : List Str} {n c : Nat} {m : MS} {vs : List V} {Q : VK} {E : XK} (hN : n ≤ N.length) (h : spI g c n (runI N.length n c m) vs H Q E) :
    RS g (fun cls d _ H' => E cls d H') m { nx := fun _ H' => Q .non H', rt := Q } (L2.start N vs) H := by
  obtain ⟨hl, B, ρ, hs, ds, x, dx, us, rfl, bx, b, hx, r, h⟩ := h
  have hd := r.length
  have hu : us.length + 1 = n := hl
  let F : Fm := ⟨ρ, ρ, fun i => if i = 0 then some x else none, fun _ => none, fun a => B a ∧ a ≠ x, fun a => if a = x then none else H a, some x⟩
  have fx : F.own 0 = some x := rfl
  have ow : ∀ {i a}, F.own i = some a → i = 0 ∧ a = x := fun {i a} q => by
    have q : (if i = 0 then some x else none) = some a := q
    split at q
    · cases q; exact ⟨by assumption, rfl⟩
    · cases q
  have xr : x ∉ ρ := (b.bF x bx).2
  have We : ∀ F' : Fm, F'.B = F.B → F'.own = F.own → (∀ j, F'.tm j = none) → F'.W = WBox B F'.ρ := fun F' h1 h2 h4 => by
    funext a; apply propext
    unfold Fm.W WBox
    rw [h1, h2]
    constructor
    · rintro (h | h | ⟨i, h⟩ | ⟨i, h⟩)
      · exact .inl h.1
      · exact .inr h
      · rw [(ow h).2]; exact .inl bx
      · rw [h4] at h; cases h
    · rintro (h | h)
      · by_cases z : a = x
        · rw [z]; exact .inr (.inr (.inl ⟨0, fx⟩))
        · exact .inl ⟨h, z⟩
      · exact .inr (.inl h)
  have w : F.W = WBox B ρ := We F rfl rfl (fun _ => rfl)
  have hHe : ∀ {a}, a ≠ x → F.He a = H a := fun {a} z => if_neg z
  have hHx : F.He x = none := if_pos rfl
  have eq0 : (L2.start N (.ref x :: us)) = some (.ref x) :: (us.map some ++ List.replicate (N.length - n) none) := by
    unfold L2.start
    simp only [List.map_cons, List.cons_append, List.length_cons, hu]
  refine ⟨F, startI N.length n c ds hs, ⟨?_, fun i d q => ?_, fun i o q => ?_, fun j a q => (by cases q), fun i a q => by rw [w]; exact b.box i a q, b.boxn, b.nd, fun i j a q q' => (ow q).1.trans (ow q').1.symm, fun i j a q _ => (by cases q), fun i j a _ q => (by cases q), fun i a q => ?_, fun i a q => (by cases q), fun a q => ⟨?_, (b.bF a q.1).2⟩, fun a o q n nt => ?_, List.prefix_refl _, fun a h n => absurd h n, fun a q => ?_, b.tab, fun y o e _ => e ▸ fx⟩, ?_⟩
  · show ((Sl.own (.ins c []) :: ds.map Sl.val) ++ List.replicate (N.length - n) Sl.no).length = (L2.start N (.ref x :: us)).length
    rw [eq0]
    simp only [List.length_append, List.length_map, List.length_replicate, List.length_cons, hd]
    omega
  · rcases start_I q with ⟨_, e⟩ | ⟨j, d', rfl, e, hd'⟩ | e
    · cases e
    · cases e
      obtain ⟨v, e1, e2⟩ := r.get hd'
      refine ⟨v, ?_, by rw [w]; exact e2⟩
      rw [eq0]
      show (us.map some ++ List.replicate (N.length - n) none)[j]? = some (some v)
      rw [List.getElem?_append_left (by simpa using (List.getElem?_eq_some_iff.mp e1).1), List.getElem?_map, e1]; rfl
    · cases e
  · rcases start_I q with ⟨rfl, e⟩ | ⟨j, d', rfl, e, hd'⟩ | e
    · cases e
      exact ⟨x, fx, by rw [eq0]; rfl, dx, [], hx, .nil⟩
    · cases e
    · cases e
  · obtain ⟨_, rfl⟩ := ow q
    exact ⟨hHx, xr, _, hx, fun _ z => (nomatch z), fun _ z => (nomatch z)⟩
  · rw [hHe q.2]; exact (b.bF a q.1).1
  · by_cases z : a = x
    · rw [z, hHx] at q; cases q
    · rw [hHe z] at q; exact q
  · by_cases z : a = x
    · rw [z, hHx] at q; exact absurd rfl q
    · rw [hHe z] at q; exact q
  · unfold runI at h
    have fin : ∀ {F' : Fm} {s : Stt} {σ' : L2.St} {H' : Hp} {o : D}, LkS F H F' H' → FrOk g.K g.ca F' s σ' H' → s.σ[0]? = some (Sl.own o) →
        CLkI ρ H F'.ρ H' x ∧ BoxOk g B F'.ρ s.hs H' ∧ Top g.K g.ca F'.ρ (hide (WBox B F'.ρ) H') H' x o ∧ Sub (hide F'.W H') (hide (WBox B F'.ρ) H') := fun {F' s σ' H' o} l ok e => by
      have hB : F'.B = F.B := l.B
      have hH : F'.He = F.He := l.He
      have h0 : F'.ρ0 = ρ := congrArg Prod.fst l.r0
      have hs' : F'.self = some x := congrArg Prod.snd l.r0
      have pre : ρ <+: F'.ρ := l.pre
      have fx' := ok.slf x o hs' e
      obtain ⟨a, e1, e2, t⟩ := ok.own 0 o e
      rw [fx'] at e1; cases e1
      have sub : Sub (hide F'.W H') (hide (WBox B F'.ρ) H') := fun a u q _ => by
        obtain ⟨q1, q2⟩ := hide_some.mp q
        refine hide_of (fun z => q1 ?_) q2
        rcases z with z | z
        · by_cases za : a = x
          · rw [za]; exact .inr (.inr (.inl ⟨0, fx'⟩))
          · exact .inl (by rw [hB]; exact ⟨z, za⟩)
        · exact .inr (.inl z)
      have n0 : ∀ a, a ∈ F'.ρ → a ∉ ρ → F.He a = none := fun a h1 h2 => by rw [← hH]; exact ok.new0 a h1 (by rw [h0]; exact h2)
      have xr' : x ∉ F'.ρ := (ok.ownF 0 x fx').2.1
      refine ⟨⟨pre, fun a h1 h2 => ?_, fun a o h1 h2 nt nx => ?_, fun a h1 => ?_⟩, ⟨fun i a q => ?_, ok.boxn, ok.nd, fun a h => ?_, ok.tab⟩, t.mono sub (List.prefix_refl _) fun _ h => h, sub⟩
      · have := n0 a h1 h2
        rw [hHe (fun z => xr' (by rw [← z]; exact h1))] at this
        exact this
      · refine ok.mono a o (by rw [hH, hHe nx]; exact h1) (fun z => ?_) nt
        have := n0 a z h2
        rw [hHe nx, h1] at this; cases this
      · by_cases z : a = x
        · rw [z]; exact ok.wd (.inr (.inr (.inl ⟨0, fx'⟩)))
        · exact ok.dom a (by rw [hH, hHe z]; exact h1)
      · obtain ⟨o, e1, t⟩ := ok.box i a q
        exact ⟨o, e1, t.mono sub (List.prefix_refl _) fun _ h => h⟩
      · by_cases z : a = x
        · rw [z]; exact ⟨ok.wmu (.inr (.inr (.inl ⟨0, fx'⟩))), xr'⟩
        · obtain ⟨h1, h2⟩ := ok.bF a (by rw [hB]; exact ⟨h, z⟩)
          exact ⟨ok.wmu (.inl (by rw [hB]; exact ⟨h, z⟩)), h2⟩
    have end_ : ∀ {s : Stt}, PostI g (selfI c s) c B ρ x H Q E → ∀ F' σ' H', LkS F H F' H' → FrOk g.K g.ca F' s σ' H' → Q .non H' := fun {s} h F' σ' H' l ok => by
      unfold selfI at h
      cases e : (s.σ[0]? : Option Sl) with
      | none => rw [e] at h; exact h.elim
      | some y =>
        rw [e] at h
        cases y with
        | no => exact h.elim
        | val d => exact h.elim
        | own o =>
          cases o <;> first | exact h.elim | skip
          rename_i c' fs
          dsimp only at h
          split at h
          · rename_i ec
            subst ec
            obtain ⟨c1, b1, t1, _⟩ := fin l ok e
            exact h F'.ρ H' c1 b1 t1
          · exact h.elim
    cases e : m (startI N.length n c ds hs) with
    | nx s => rw [e] at h; exact fun F' σ' H' l ok => end_ h F' σ' H' l ok
    | rt d s =>
      rw [e] at h
      cases d <;> first | exact h.elim | skip
      intro F' σ' v H' l ok rv
      cases rv
      exact end_ h F' σ' H' l ok
    | bk s => rw [e] at h; exact h.elim
    | ct s => rw [e] at h; exact h.elim
    | exc c' fs s =>
      rw [e] at h
      cases e2 : (s.σ[0]? : Option Sl) with
      | none => simp only [e2] at h; exact h.elim
      | some y =>
        simp only [e2] at h
        cases y with
        | no => exact h.elim
        | val d => exact h.elim
        | own o =>
          intro F' σ' H' d l ok ⟨vs, e1, e3⟩
          obtain ⟨c1, b1, t1, sub⟩ := fin l ok e2
          exact h F'.ρ H' d o c1 b1 t1 ⟨vs, sub.b.xd e1, e3.mono sub (List.prefix_refl _)⟩
    | bad => rw [e] at h; exact h.elim
/-- __init__ keeps its promise -/
theorem fnI_rf {P : Program} {w : World} {mg : Str → Option Value} {base : Heap} {x qual : Str} {st : Stmt} {f : Addr} {fd : FuncData} {N ps : List Str} {k c : Nat} {m : MS} (F : Fun g.K x qual st f fd) (S : FnScope N ps (defScope st))
    (hbody : ∀ (cdv : Value) (A : Around) (outer : List Env) (s : Shared) (H : Hp) (E : XK), Room k (A.deeper (envOfC qual (defScope st) s.heap.objs.size f cdv)) →
      PSs (cxOf (L2.CX P w) P w g.K mg base N qual (defScope st) f cdv A outer s H E) (defBody st) (RS g (fun cls d _ H' => E cls d H') m)) :
    FnOk P w g.K mg base (L2.CX P w) (k + 1) f fd ps (spI g c ps.length (runI N.length ps.length c m)) := by
  have hN : ps.length ≤ N.length := by have := congrArg List.length S.pre; rw [List.length_take] at this; omega
  exact F.okX S (fun vs H Q E h => h.1) fun cdv A outer s H vs Q E hr h => ⟨_, hbody cdv A outer s H E hr, bodyI_sp hN h⟩
end
end Rf

set_option Elab.async false
set_option linter.all false
set_option maxRecDepth 100000
set_option maxHeartbeats 2000000
/-! Rf, part W: methods called, instances made. -/
namespace Rf
open PySem L2 PyProof.Rows

section
variable {g : G} {X : Cx} {E : L2.WX} {F : Fm} {st : Stt} {σ : L2.St} {H : Hp} {e o : Expr} {es : List Expr} {m : M Hd} {ms : M (List D)} {oc : Oc} {k : Nat} {name : Str} {apos pos p : Pos}
/-- the methods of a name -/
def cMeth (g : G) (name : Str) : Addr → Nat → Prop := fun C' i => ∃ c, C' = g.ca.cl c ∧ g.meth c name = some i
theorem meth_all (hK : X.K = g.K) (C : ClsF g) (hF : ∀ c i, g.meth c name = some i → HasF g X oc k i) : MethOk X k (cMeth g name) name (fun i => spF g (g.fn i) (oc i)) := fun C' i ⟨c, e, hi⟩ => by
  subst e
  obtain ⟨c1, c2⟩ := C.meth c name i hi
  obtain ⟨j, fd, ps, hj, F, _, hb⟩ := hF c i hi
  rw [hK]
  rw [hK] at F hb
  exact ⟨_, j, fd, ps, c1, c2, hj, F, hb⟩
theorem meth_go {v : V} {H1 : Hp} {Q : VK} (w : RFw g (RH g) E (bnd (look h1) fun d => bnd (opt (methD g.toGd name d)) fun i => bnd (toD false h1) fun self => bnd ms fun ds => callD oc i (g.fn i) (self :: ds)) F st σ H1 Q) (r : RepH g.K g.ca F σ H1 h1 v) :
    ∃ a C' dx fs i, v = .ref a ∧ H1 a = some (.ins C' dx fs) ∧ cMeth g name C' i ∧ fs.lookup name = none ∧ RA g E ms σ H1 fun vs H2 => spF g (g.fn i) (oc i) (v :: vs) H2 Q (WE E σ) := by
  obtain ⟨d, rd, w⟩ := w.look_bind r
  obtain ⟨i, ei, w2⟩ := w.opt_bind
  cases d <;> simp only [methD, reduceCtorEq] at ei
  rename_i c fs
  split at ei
  · rename_i hn
    obtain ⟨a, dx, vs, rfl, h1, rf⟩ := rd.ins
    obtain ⟨F1, st1, self, l1, rs, w⟩ := w2.toD_bind r
    have hl : lookF name fs = none := by
      cases q : lookF name fs with
      | none => rfl
      | some x => rw [q] at hn; cases hn
    refine ⟨a, _, dx, vs, i, rfl, h1, ⟨c, rfl, ei⟩, rf.lookN hl, F1, st1, (RFw.bind (R := RL g) w).mono fun us H2 ⟨F2, ds, st2, l2, r2, w⟩ => ?_⟩
    exact call_sp w (.cons (Rep.lk l2 rs) r2)
  · cases ei
theorem rf_meth {pl : Sem Bool} (hK : X.K = g.K) (C : ClsF g) (hF : ∀ c i, g.meth c name = some i → HasF g X oc k i) (hr : Room k X.A) (tk : Takes X E) (ho : PE X o (RE g E m)) (ha : PA X (e :: es) (RA g E ms))
    (hst : starEach (e :: es) X.env = (false, eval e X.env) :: starEach es X.env) (hpl : (backTo pos (starEach es X.env)).any (·.1) = false)
    (ht : eval (.Call (.Attribute o name apos) (e :: es) [] pos) X.env = (do
      let ov ← eval o X.env
      standAt apos.atName
      let (f, first) ← holding [ov] (getMethod ov name pl)
      callWith pos f first (backTo pos (starEach (e :: es) X.env)) (backToKw pos (keywordEach [] X.env)))) :
    PE X (.Call (.Attribute o name apos) (e :: es) [] pos) (RE g E (mMeth g.toGd oc false name m ms)) := (pe_methD ho (meth_all hK C hF) hr tk ha hst hpl ht).weak fun σ H Q ⟨F, st, w⟩ =>
  ⟨F, st, (RFw.bind (R := RH g) w).mono fun v H1 ⟨F1, h1, st1, l1, r1, w⟩ => meth_go w r1⟩
theorem rf_meth0 {pl : Sem Bool} (hK : X.K = g.K) (C : ClsF g) (hF : ∀ c i, g.meth c name = some i → HasF g X oc k i) (hr : Room k X.A) (tk : Takes X E) (ho : PE X o (RE g E m))
    (ht : eval (.Call (.Attribute o name apos) [] [] pos) X.env = (do
      let ov ← eval o X.env
      standAt apos.atName
      let (f, first) ← holding [ov] (getMethod ov name pl)
      callWith pos f first (backTo pos (starEach [] X.env)) (backToKw pos (keywordEach [] X.env)))) :
    PE X (.Call (.Attribute o name apos) [] [] pos) (RE g E (mMeth g.toGd oc false name m (mDs false []))) := (pe_methD0 ho (meth_all hK C hF) hr tk ht).weak fun σ H Q ⟨F, st, w⟩ =>
  ⟨F, st, (RFw.bind (R := RH g) w).mono fun v H1 ⟨F1, h1, st1, l1, r1, w⟩ => by
    obtain ⟨a, C', dx, fs, i, ev, h2, h3, h4, F2, st2, w2⟩ := meth_go w r1
    refine ⟨a, C', dx, fs, i, ev, h2, h3, h4, ?_⟩
    exact w2.2 F2 [] H1 Lk.refl w2.1 .nil⟩

/-! ### C(..) -/
/-- making an instance, its __init__ at the level k -/
def HasI (g : G) (X : Cx) (oi : Oi) (k c n : Nat) : Prop := ∃ f j fd ps, j ≤ k ∧ Mk X.K (g.ca.cl c) f ∧ FnOk X.prog X.w X.K X.mg X.base (L2.CX X.prog X.w) j f fd ps (spI g c n (oi c)) ∧ Binds X.K fd ps []
theorem run_makeS {CX : CXT} {f C : Addr} {fd : FuncData} {ps : List Str} {sp : Sp} {E' : XK} {pins : List (Addr × Obj)} {s : Shared} {Q : VK} {us : List Value} {vs : List V} (M : Mk X.K C f) (F : FnOk X.prog X.w X.K X.mg X.base CX k f fd ps sp) (hr : Room (k + 1) X.A) (hb : Binds X.K fd ps [])
    (hx : PassesAt CX X σ E') (I : Inv X pins σ H s) (r : Vals vs us)
    (h : ∀ x dx, H x = none → H dx = none → dx ≠ x → sp (.ref x :: vs) (upd (upd H dx (.own x)) x (.ins C dx [])) (fun v H2 => v = .non ∧ Q (.ref x) H2) E') :
    wpAny (model X.prog X.w) X.A (call (.ref C) us) (EP X pins σ Q) X.xe s := by
  have hq := h (s.heap.objs.size + 1) s.heap.objs.size (I.hok.fresh (Nat.le_succ _)) (I.hok.fresh (Nat.le_refl _)) (Nat.ne_of_lt (Nat.lt_succ_self _))
  have I2 := Inv.made (C := C) I
  have r2 : Vals (V.ref (s.heap.objs.size + 1) :: vs) (Value.ref (s.heap.objs.size + 1) :: us) := .cons rfl r
  have hl : (Value.ref (s.heap.objs.size + 1) :: us).length = ps.length := by
    have e := r2.length
    rw [F.len _ _ _ _ hq] at e
    exact e.symm
  refine wpAny_call (make_map (f := f) I.kIn M.makes M.init (beq_iff_eq.mp M.fn) (codeAny_mono (F.run _ X.stack _ _ ⟨Value.ref (s.heap.objs.size + 1) :: us, []⟩ (Value.ref (s.heap.objs.size + 1) :: us) _ _ E' (hr.make C us [])
    (I2.env0.make C us []) (by have b := hb _ (Value.ref (s.heap.objs.size + 1) :: us) I2.kIn (by rw [List.append_nil]; exact hl); rw [List.append_nil] at b; exact b) r2 hq) fun r s' hq' => ?_))
  cases r with
  | error e => exact hx pins _ _ e s' I2 hq'
  | ok fl =>
    cases fl with
    | ret u =>
      obtain ⟨v, H', I3, rv, ev, q3⟩ := I2.after hq'
      subst ev
      exact ⟨rv, ⟨V.ref (s.heap.objs.size + 1), H', I3, rfl, q3⟩⟩
    | next => exact False.elim hq'
    | brk => exact False.elim hq'
    | cont => exact False.elim hq'
def tMakeS (C : Addr) (sp : Sp) (E : L2.WX) (t : TA) : TE := fun σ H Q => t σ H fun vs H1 => ∀ x dx, H1 x = none → H1 dx = none → dx ≠ x →
  sp (.ref x :: vs) (upd (upd H1 dx (.own x)) x (.ins C dx [])) (fun v H2 => v = .non ∧ Q (.ref x) H2) (WE E σ)
theorem pe_makeS {x : Str} {f C : Addr} {fd : FuncData} {ps : List Str} {sp : Sp} {t : TA} (M : Mk X.K C f) (F : FnOk X.prog X.w X.K X.mg X.base (L2.CX X.prog X.w) k f fd ps sp) (hr : Room (k + 1) X.A) (hg : Gl X x) (hm : X.mg x = some (.ref C)) (hb : Binds X.K fd ps []) (tk : Takes X E)
    (ha : PA X (e :: es) t) (hdb : (x == ("__debug__" : Str)) = false) (he : starEach (e :: es) X.env = (false, eval e X.env) :: starEach es X.env) (hpl : (backTo pos (starEach es X.env)).any (·.1) = false) :
    PE X (.Call (.Name x p) (e :: es) [] pos) (tMakeS C sp E t) := by
  refine ⟨fun pins s σ H Q I h => ?_⟩
  refine wpAny_Call_Name_kw (ld_glob I hg hm ?_ hdb)
  refine PySem.W.callWith_K (h₀ := X.base) I.ok.mod.kin M.kp (thn (ha.run pos pins s σ H _ I h) fun us s1 ⟨vs, H1, I1, r, q⟩ => ⟨I1.kIn, ?_⟩) he hpl
  exact run_makeS M F hr hb (passAt tk σ) I1 r q
theorem pe_makeS0 {x : Str} {f C : Addr} {fd : FuncData} {ps : List Str} {sp : Sp} (M : Mk X.K C f) (F : FnOk X.prog X.w X.K X.mg X.base (L2.CX X.prog X.w) k f fd ps sp) (hr : Room (k + 1) X.A) (hg : Gl X x) (hm : X.mg x = some (.ref C)) (hb : Binds X.K fd ps []) (tk : Takes X E)
    (hdb : (x == ("__debug__" : Str)) = false) : PE X (.Call (.Name x p) [] [] pos) (tMakeS C sp E tNil) := by
  refine ⟨fun pins s σ H Q I h => ?_⟩
  refine wpAny_Call_Name_kw (ld_glob I hg hm ?_ hdb)
  exact PySem.W.callWith_K0 I.kIn M.kp (run_makeS (us := []) M F hr hb (passAt tk σ) I .nil h)
theorem new_go {c n : Nat} {oi : Oi} {H1 : Hp} {Q : VK} {ds : List D} {vs : List V} (w : RFw g RNr E (fun s => if ds.length + 1 = n then (match oi c ds s.hs with
      | .ok fs hs => .ok s.tm.length { s with hs := hs, tm := s.tm ++ [.ins c fs] }
      | .exc c' fs hs => .exc c' fs { s with hs := hs }
      | .bad => .bad) else .bad) F st σ H1 Q) (r : Reps g.K g.ca F.ρ (hide F.W H1) ds vs) (x dx : Addr) (hx : H1 x = none) (hdx : H1 dx = none) (ne : dx ≠ x) :
    spI g c n (oi c) (.ref x :: vs) (upd (upd H1 dx (.own x)) x (.ins (g.ca.cl c) dx [])) (fun v H2 => v = .non ∧ Q (.ref x) H2) (WE E σ) := by
  obtain ⟨ok, w⟩ := w
  dsimp only at w
  by_cases hn : ds.length + 1 = n
  · rw [if_pos hn] at w
    have ok1 := ok.upd (o := .own x) hdx
    have l1 := ok.lk_upd (o := .own x) hdx
    have hx1 : upd H1 dx (.own x) x = none := by rw [upd_ne (Ne.symm ne)]; exact hx
    obtain ⟨l2, ok2⟩ := ok1.push (o := .ins (g.ca.cl c) dx []) (d := .ins c []) hx1 ⟨dx, [], upd_same, .nil⟩
    have tj : (F.put st.tm.length x).tm st.tm.length = some x := by show (if _ = _ then some x else _) = _; rw [if_pos rfl]
    have r2 := (r.lk l1).lk l2
    refine ⟨by rw [← hn, r.length]; rfl, (F.put st.tm.length x).Bc, F.ρ, st.hs, ds, x, dx, vs, rfl, .inr (.inr ⟨_, tj⟩), ok2.boxOk, upd_same, by
      have := r2
      rw [Fm.W_eq] at this
      exact this, ?_⟩
    cases q : oi c ds st.hs with
    | ok fs hs' =>
      simp only [q] at w
      intro ρ' H' k b t
      obtain ⟨l3, ok3⟩ := ok2.backI tj k b t
      refine ⟨rfl, w { F.put st.tm.length x with ρ := ρ' } (.ref x) H' ⟨(l1.s.trans l2.s).trans l3.s, fun j a h => l3.tmk j a (l2.tmk j a (l1.tmk j a h))⟩ ?_ ⟨x, rfl, tj⟩⟩
      have e : (st.tm ++ [D.ins c []]).set st.tm.length (.ins c fs) = st.tm ++ [.ins c fs] := by simp
      have ok3' : FrOk g.K g.ca _ { st with hs := hs', tm := (st.tm ++ [D.ins c []]).set st.tm.length (.ins c fs) } σ H' := ok3
      rw [e] at ok3'
      exact ok3'
    | exc c' fs hs' =>
      simp only [q] at w
      intro ρ' H' d o k b t ⟨vs', e1, e2⟩
      obtain ⟨l3, ok3⟩ := ok2.backI tj k b t
      have lk3 : LkS F H1 { F.put st.tm.length x with ρ := ρ' } H' := (l1.s.trans l2.s).trans l3.s
      -- the half made instance is of no interest
      let F4 : Fm := { (F.put st.tm.length x).off st.tm.length with ρ := ρ' }
      have hs4 : Sub (hide (Fm.W { F.put st.tm.length x with ρ := ρ' }) H') (hide F4.W H') := hide_le fun b w => by
        rcases w with w | w | w | ⟨k, w⟩
        · exact .inl w
        · exact .inr (.inl w)
        · exact .inr (.inr (.inl w))
        · have w : (if k = st.tm.length then none else (F.put st.tm.length x).tm k) = some b := w
          split at w
          · cases w
          · exact .inr (.inr (.inr ⟨k, w⟩))
      have tp : ∀ {b x'}, Top g.K g.ca ρ' (hide (Fm.W { F.put st.tm.length x with ρ := ρ' }) H') H' b x' → Top g.K g.ca ρ' (hide F4.W H') H' b x' := fun t => t.mono hs4 (List.prefix_refl _) (fun u h => h)
      have tmk : ∀ {j a}, F4.tm j = some a → j ≠ st.tm.length ∧ (F.put st.tm.length x).tm j = some a := fun {j a} q => by
        have w : (if j = st.tm.length then none else (F.put st.tm.length x).tm j) = some a := q
        split at w
        · cases w
        · exact ⟨by assumption, w⟩
      refine w F4 H' d ⟨lk3.trans ⟨rfl, rfl, rfl, List.prefix_refl _, hs4⟩, fun j a h => ?_⟩ ?_ ?_
      · show (if j = st.tm.length then none else (if j = st.tm.length then some x else F.tm j)) = some a
        have : j ≠ st.tm.length := fun z => by rw [z, ok.tmN (Nat.le_refl _)] at h; cases h
        rw [if_neg this, if_neg this]; exact h
      · refine ⟨ok3.len, fun i d h => let ⟨v, e1, r⟩ := ok3.val i d h; ⟨v, e1, r.mono hs4 (List.prefix_refl _)⟩, fun i o h => let ⟨a, e1, e2, t⟩ := ok3.own i o h; ⟨a, e1, e2, tp t⟩, fun j a h => ?_, fun j a h => let ⟨o, e, t⟩ := ok3.box j a h; ⟨o, e, tp t⟩, ok3.boxn, ok3.nd, ok3.ownI,
          fun i j a h1 h2 => ok3.tmI i j a (tmk h1).2 (tmk h2).2, fun i j a h1 h2 => ok3.ownT i j a h1 (tmk h2).2, ok3.ownF, fun j a h => ok3.tmF j a (tmk h).2, ok3.bF, ok3.mono, ok3.pre0, ok3.new0, ok3.dom, ok3.tab, ok3.slf⟩
        obtain ⟨n1, h1⟩ := tmk h
        obtain ⟨o', e', t'⟩ := ok3.tm j a h1
        have e' : ((st.tm ++ [D.ins c []]).set st.tm.length o)[j]? = some o' := e'
        rw [List.getElem?_set_ne (Ne.symm n1)] at e'
        have jl : j < st.tm.length := by
          have := (List.getElem?_eq_some_iff.mp e').1
          rw [List.length_append, List.length_singleton] at this
          omega
        rw [List.getElem?_append_left jl] at e'
        exact ⟨o', e', tp t'⟩
      · show ∃ vs, hide F4.W H' d = some (.xd vs) ∧ RepF g.K g.ca ρ' (hide F4.W H') fs vs
        have eW : WBox (F.put st.tm.length x).Bc ρ' = Fm.W { F.put st.tm.length x with ρ := ρ' } := (Fm.W_eq { F.put st.tm.length x with ρ := ρ' }).symm
        rw [eW] at e1 e2
        exact ⟨vs', hs4.b.xd e1, e2.mono hs4 (List.prefix_refl _)⟩
    | bad => simp only [q] at w; exact w.elim
  · rw [if_neg hn] at w; exact w.elim
theorem rn_new {x : Str} {c n : Nat} {oi : Oi} (hI : HasI g X oi k c n) (hr : Room (k + 1) X.A) (hg : Gl X x) (hm : X.mg x = some (.ref (g.ca.cl c))) (tk : Takes X E)
    (ha : PA X (e :: es) (RA g E ms)) (hdb : (x == ("__debug__" : Str)) = false) (he : starEach (e :: es) X.env = (false, eval e X.env) :: starEach es X.env) (hpl : (backTo pos (starEach es X.env)).any (·.1) = false) :
    PE X (.Call (.Name x p) (e :: es) [] pos) (RN g E (nNew oi c n ms)) := by
  obtain ⟨f, j, fd, ps, hj, M, F, hb⟩ := hI
  exact (pe_makeS M F (hr.mono (Nat.succ_le_succ hj)) hg hm hb tk ha hdb he hpl).weak fun σ H Q ⟨F, st, w⟩ => ⟨F, st, (RFw.bind (R := RL g) w).mono fun vs H1 ⟨F1, ds, st1, l1, r1, w⟩ x dx hx hdx ne => new_go w r1 x dx hx hdx ne⟩
theorem rn_newE {x : Str} {c n : Nat} {oi : Oi} (hI : HasI g X oi k c n) (hr : Room (k + 1) X.A) (hg : Gl X x) (hm : X.mg x = some (.ref (g.ca.cl c))) (tk : Takes X E) (hdb : (x == ("__debug__" : Str)) = false) :
    PE X (.Call (.Name x p) [] [] pos) (RN g E (nNew oi c n (mDs false []))) := by
  obtain ⟨f, j, fd, ps, hj, M, F, hb⟩ := hI
  exact (pe_makeS0 M F (hr.mono (Nat.succ_le_succ hj)) hg hm hb tk hdb).weak fun σ H Q ⟨F, st, w⟩ x dx hx hdx ne => new_go (ds := []) w .nil x dx hx hdx ne
/-! ### C() where there is no __init__ -/
structure Mk0 (K : PySem.W.Frag) (C : Addr) : Prop where
  makes : PySem.W.makesIn K C = true
  init : PySem.W.findIn K (.ref C) "__init__" = some (some (.builtin "object.__init__"))
  top : PySem.W.mroIn K C (.type "object") = some true
  kp : PySem.W.keepIn K (.ref C) = true
theorem pe_make00 {x : Str} {C : Addr} (M : Mk0 X.K C) (hg : Gl X x) (hm : X.mg x = some (.ref C)) (hdb : (x == ("__debug__" : Str)) = false) :
    PE X (.Call (.Name x p) [] [] pos) (fun σ H Q => ∀ x dx, H x = none → H dx = none → dx ≠ x → Q (.ref x) (upd (upd H dx (.own x)) x (.ins C dx []))) := by
  refine ⟨fun pins s σ H Q I h => ?_⟩
  refine wpAny_Call_Name_kw (ld_glob I hg hm ?_ hdb)
  refine PySem.W.callWith_K0 I.kIn M.kp ?_
  have hq := h (s.heap.objs.size + 1) s.heap.objs.size (I.hok.fresh (Nat.le_succ _)) (I.hok.fresh (Nat.le_refl _)) (Nat.ne_of_lt (Nat.lt_succ_self _))
  have I2 := Inv.made (C := C) I
  have t1 : PySem.W.Looks (model X.prog X.w) ((s.heap.push PySem.W.emptyDict).push (PySem.W.instObj C s.heap.objs.size)) (typeOf (.ref (s.heap.objs.size + 1))) (.ref C) :=
    NwA.type_at (o := PySem.W.instObj C s.heap.objs.size) (by
      have := Heap.get?_push_size (s.heap.push PySem.W.emptyDict) (o := PySem.W.instObj C s.heap.objs.size) rfl
      rwa [Heap.size_push] at this) rfl
  have t2 : PySem.W.Looks (model X.prog X.w) ((s.heap.push PySem.W.emptyDict).push (PySem.W.instObj C s.heap.objs.size)) (isInstance (.ref (s.heap.objs.size + 1)) (.type "object")) true := t1.andThen (PySem.W.looks_mroIn I2.kIn M.top)
  refine wpAny_call (make_map0 I.kIn M.makes M.init (fun self => PySem.W.Looks.of_pure (PySem.W.oi_bind _)) ?_)
  refine codeAny_call_builtin PySem.W.oi_plain PySem.W.entry_oi (PySem.W.check_slot (s := { s with heap := (s.heap.push PySem.W.emptyDict).push (PySem.W.instObj C s.heap.objs.size) }) PySem.W.oi_kind PySem.W.oi_split t2 (PySem.W.oi_args _) ?_)
  rw [PySem.W.oi_run]
  exact wpAny_pure ⟨rfl, ⟨V.ref (s.heap.objs.size + 1), _, I2, rfl, hq⟩⟩
theorem rn_new0 {x : Str} {c : Nat} (M : Mk0 X.K (g.ca.cl c)) (hg : Gl X x) (hm : X.mg x = some (.ref (g.ca.cl c))) (hdb : (x == ("__debug__" : Str)) = false) : PE X (.Call (.Name x p) [] [] pos) (RN g E (nNew0 c)) :=
  (pe_make00 M hg hm hdb).weak fun σ H Q ⟨F, st, ok, w⟩ x dx hx hdx ne => by
    have ok1 := ok.upd (o := .own x) hdx
    have l1 := ok.lk_upd (o := .own x) hdx
    have w1 : RFw g RNr E (nNew0 c) F st σ (upd H dx (.own x)) Q := ⟨ok1, Post.lk l1 w⟩
    exact w1.fresh_end (by rw [upd_ne (Ne.symm ne)]; exact hx) ⟨dx, [], upd_same, .nil⟩
end
end Rf

set_option Elab.async false
set_option linter.all false
set_option maxRecDepth 100000
/-! Rf, part X: built-in functions; stars. -/
namespace Rf
open PySem L2 PyProof.Rows

/-! ### one argument -/
def m1 (op : D → Option D) (m : M Hd) : M Hd := bnd m fun h => bnd (look h) fun x => bnd (opt (op x)) fun z => ret (.d z)
def n1 (op : D → Option D) (m : M Hd) : M Nat := bnd m fun h => bnd (look h) fun x => bnd (opt (op x)) fun z => fresh z
def lenO (x : D) : Option D := (match x with
  | .str x => if x.length ≤ lim then some (.int x.length) else none
  | x => (seqOf x).map fun xs => .int xs.length)
def intO : D → Option D
  | .int i => some (.int i)
  | .bl b => some (.int (if b then 1 else 0))
  | _ => none
def boolO : D → Option D
  | .int i => some (.bl (i != 0))
  | .bl b => some (.bl b)
  | _ => none
def tupO (x : D) : Option D := (seqOf x).map .tup
def lstO (x : D) : Option D := (seqOf x).map .lst
def blsOf : List D → Option (List Bool)
  | [] => some []
  | .bl b :: r => (blsOf r).map fun bs => b :: bs
  | _ => none
def intsOf : List D → Option (List Int)
  | [] => some []
  | .int i :: r => (intsOf r).map fun bs => i :: bs
  | _ => none
def allO (x : D) : Option D := (lstOf x).bind fun xs => (blsOf xs).map fun bs => .bl (bs.all id)
def anyO (x : D) : Option D := (lstOf x).bind fun xs => (blsOf xs).map fun bs => .bl (bs.any id)
def sumO (x : D) : Option D := (lstOf x).bind fun xs => (intsOf xs).map fun bs => .int bs.sum
def maxL : List Int → Int
  | [] => 0
  | [x] => x
  | x :: r => max x (maxL r)
def minL : List Int → Int
  | [] => 0
  | [x] => x
  | x :: r => min x (minL r)
def maxO (x : D) : Option D := (lstOf x).bind fun xs => (intsOf xs).bind fun bs => if bs.isEmpty = true then none else some (.int (maxL bs))
def minO (x : D) : Option D := (lstOf x).bind fun xs => (intsOf xs).bind fun bs => if bs.isEmpty = true then none else some (.int (minL bs))
section
variable {g : G} {X : Cx} {E : L2.WX} {F : Fm} {st : Stt} {σ : L2.St} {H : Hp} {e o : Expr} {es : List Expr} {m : M Hd} {ms : M (List D)} {p pos : Pos} {x : Str} {id T : String} {r : List V → Hp → VK → Prop} {f : D → Option D}
def B1Ok (g : G) (op : D → Option D) (r : List V → Hp → VK → Prop) : Prop := ∀ {F : Fm} {st : Stt} {σ : L2.St} {H : Hp} {x z : D} {v : V} {Q : VK}, FrOk g.K g.ca F st σ H → RepC g.K g.ca F.ρ (hide F.W H) H x v → op x = some z →
  (∀ w H', Lk F H F H' → FrOk g.K g.ca F st σ H' → Rep g.K g.ca F.ρ (hide F.W H') z w → Q w H') → r [v] H Q
def N1Ok (g : G) (op : D → Option D) (r : List V → Hp → VK → Prop) : Prop := ∀ {F : Fm} {st : Stt} {σ : L2.St} {H : Hp} {x z : D} {v : V} {Q : VK}, FrOk g.K g.ca F st σ H → RepC g.K g.ca F.ρ (hide F.W H) H x v → op x = some z →
  (∀ p o, H p = none → Top g.K g.ca F.ρ (hide F.W H) (L2.upd H p o) p z → Q (.ref p) (L2.upd H p o)) → r [v] H Q
theorem m1_go {Q : VK} (hr : B1Ok g f r) (w : RE g E (m1 f m) σ H Q) : tCB r (tCons (RE g E m) tNil) σ H Q := by
  obtain ⟨F, st, w⟩ := w
  exact ⟨F, st, (RFw.bind (R := RH g) w).mono fun v H1 ⟨F1, h1, st1, l1, r1, w⟩ => by
    obtain ⟨d, rd, w⟩ := w.look_bind r1
    obtain ⟨z, ez, w⟩ := w.opt_bind
    exact hr w.1 rd ez fun u H' l ok q => w.ret_end l ok q⟩
theorem n1_go {Q : VK} (hr : N1Ok g f r) (w : RN g E (n1 f m) σ H Q) : tCB r (tCons (RE g E m) tNil) σ H Q := by
  obtain ⟨F, st, w⟩ := w
  exact ⟨F, st, (RFw.bind (R := RH g) w).mono fun v H1 ⟨F1, h1, st1, l1, r1, w⟩ => by
    obtain ⟨d, rd, w⟩ := w.look_bind r1
    obtain ⟨z, ez, w⟩ := w.opt_bind
    exact hr w.1 rd ez fun p o hp t => w.fresh_end hp t⟩
theorem rf_b1 (hc : CallR X (.builtin id) r) (hr : B1Ok g f r) (hg : Gl X x) (hm : X.mg x = none) (hv : bootBuiltins x = some (.builtin id)) (ha : PE X e (RE g E m)) (hn : x ≠ "__name__") (hdb : (x == ("__debug__" : Str)) = false)
    (he : starEach [e] X.env = (false, eval e X.env) :: starEach [] X.env) (hpl : (backTo pos (starEach [] X.env)).any (·.1) = false) : PE X (.Call (.Name x p) [e] [] pos) (RE g E (m1 f m)) :=
  (pe_callB hc hg hm hv (pa_cons ha pa_nil he) hn hdb he hpl).weak fun _ _ _ w => m1_go hr w
theorem rf_t1 (hc : CallR X (.type T) r) (hr : B1Ok g f r) (hg : Gl X x) (hm : X.mg x = none) (hv : bootBuiltins x = some (.type T)) (ha : PE X e (RE g E m)) (hn : x ≠ "__name__") (hdb : (x == ("__debug__" : Str)) = false)
    (he : starEach [e] X.env = (false, eval e X.env) :: starEach [] X.env) (hpl : (backTo pos (starEach [] X.env)).any (·.1) = false) : PE X (.Call (.Name x p) [e] [] pos) (RE g E (m1 f m)) :=
  (pe_callTy hc hg hm hv (pa_cons ha pa_nil he) hn hdb he hpl).weak fun _ _ _ w => m1_go hr w
theorem rn_b1 (hc : CallR X (.builtin id) r) (hr : N1Ok g f r) (hg : Gl X x) (hm : X.mg x = none) (hv : bootBuiltins x = some (.builtin id)) (ha : PE X e (RE g E m)) (hn : x ≠ "__name__") (hdb : (x == ("__debug__" : Str)) = false)
    (he : starEach [e] X.env = (false, eval e X.env) :: starEach [] X.env) (hpl : (backTo pos (starEach [] X.env)).any (·.1) = false) : PE X (.Call (.Name x p) [e] [] pos) (RN g E (n1 f m)) :=
  (pe_callB hc hg hm hv (pa_cons ha pa_nil he) hn hdb he hpl).weak fun _ _ _ w => n1_go hr w
theorem rn_t1 (hc : CallR X (.type T) r) (hr : N1Ok g f r) (hg : Gl X x) (hm : X.mg x = none) (hv : bootBuiltins x = some (.type T)) (ha : PE X e (RE g E m)) (hn : x ≠ "__name__") (hdb : (x == ("__debug__" : Str)) = false)
    (he : starEach [e] X.env = (false, eval e X.env) :: starEach [] X.env) (hpl : (backTo pos (starEach [] X.env)).any (·.1) = false) : PE X (.Call (.Name x p) [e] [] pos) (RN g E (n1 f m)) :=
  (pe_callTy hc hg hm hv (pa_cons ha pa_nil he) hn hdb he hpl).weak fun _ _ _ w => n1_go hr w

/-! ### which -/
def rLenD (K : PySem.W.Frag) : List V → Hp → VK → Prop := fun xs H Q => (∃ p ys, xs = [.ref p] ∧ (SqL K H p ys ∨ SqT K H p ys) ∧ Q (.int ys.length) H) ∨ ∃ z, xs = [.str z] ∧ z.length ≤ sizeLine ∧ Q (.int z.length) H
theorem cr_lenD : CallR X (.builtin "len") (rLenD X.K) := call_len_seq.or call_len_str
theorem ok_len : B1Ok g lenO (rLenD g.K) := by
  intro F st σ H x z v Q ok rx e q
  unfold lenO at e
  split at e
  · split at e
    · rename_i y hl
      cases e; cases rx.str
      exact .inr ⟨_, rfl, by rw [← lim_eq]; exact hl, q _ _ Lk.refl ok (.int _)⟩
    · cases e
  · obtain ⟨ys, e1, e2⟩ := Option.map_eq_some_iff.mp e
    subst e2
    obtain ⟨a, vs, rfl, h, r⟩ := rx.seq e1
    exact .inl ⟨a, vs, rfl, h, by rw [← r.length]; exact q _ _ Lk.refl ok (.int _)⟩
theorem ok_int : B1Ok g intO (fun xs H Q => (∃ i, xs = [.int i] ∧ Q (.int i) H) ∨ ∃ k, xs = [.bl k] ∧ Q (.int (if k then 1 else 0)) H) := by
  intro F st σ H x z v Q ok rx e q
  cases x <;> simp only [intO, reduceCtorEq, Option.some.injEq] at e
  · subst e; cases rx.bl; exact .inr ⟨_, rfl, q _ _ Lk.refl ok (.int _)⟩
  · subst e; cases rx.int; exact .inl ⟨_, rfl, q _ _ Lk.refl ok (.int _)⟩
theorem ok_bool : B1Ok g boolO (fun xs H Q => (∃ i, xs = [.int i] ∧ Q (.bl (i != 0)) H) ∨ ∃ k, xs = [.bl k] ∧ Q (.bl k) H) := by
  intro F st σ H x z v Q ok rx e q
  cases x <;> simp only [boolO, reduceCtorEq, Option.some.injEq] at e
  · subst e; cases rx.bl; exact .inr ⟨_, rfl, q _ _ Lk.refl ok (.bl _)⟩
  · subst e; cases rx.int; exact .inl ⟨_, rfl, q _ _ Lk.refl ok (.bl _)⟩
theorem ok_tuple : B1Ok g tupO (fun xs H Q => ∃ p ys, xs = [.ref p] ∧ ((SqL g.K H p ys ∧ ∀ l, H l = none → Q (.ref l) (upd H l (.tup ys))) ∨ (SqT g.K H p ys ∧ Q (.ref p) H))) := by
  intro F st σ H x z v Q ok rx e q
  obtain ⟨ys, e1, e2⟩ := Option.map_eq_some_iff.mp e
  subst e2
  have fr : ∀ {a : Addr} {vs : List V}, SqL g.K H a vs → Reps g.K g.ca F.ρ (hide F.W H) ys vs → ∀ l, H l = none → Q (.ref l) (upd H l (.tup vs)) := fun {a vs} h r l hl =>
    q _ _ (ok.lk_upd hl) (ok.upd hl) (.tup (SqT.of (ok.seen hl)) (r.lk (ok.lk_upd hl)))
  cases x <;> simp only [seqOf, reduceCtorEq, Option.some.injEq] at e1
  · subst e1
    obtain ⟨a, vs, rfl, h, r⟩ := rx.tup
    exact ⟨a, vs, rfl, .inr ⟨h, q _ _ Lk.refl ok rx.rep_tup⟩⟩
  · subst e1
    obtain ⟨a, vs, rfl, h, r⟩ := rx.lst
    exact ⟨a, vs, rfl, .inl ⟨SqL.of h, fr (SqL.of h) r⟩⟩
  · subst e1
    obtain ⟨a, vs, rfl, h, r⟩ := rx.frl
    exact ⟨a, vs, rfl, .inl ⟨h, fr h r⟩⟩
theorem ok_list : N1Ok g lstO (fun xs H Q => ∃ p ys, xs = [.ref p] ∧ (SqL g.K H p ys ∨ SqT g.K H p ys) ∧ ∀ l, H l = none → Q (.ref l) (upd H l (.lst ys))) := by
  intro F st σ H x z v Q ok rx e q
  obtain ⟨ys, e1, e2⟩ := Option.map_eq_some_iff.mp e
  subst e2
  obtain ⟨a, vs, rfl, h, r⟩ := rx.seq e1
  exact ⟨a, vs, rfl, h, fun l hl => q _ _ hl ⟨vs, upd_same, r⟩⟩
theorem bls_rep {K : PySem.W.Frag} {ca : CA} {ρ : List Addr} : ∀ {xs : List D} {vs : List V} {bs : List Bool}, Reps K ca ρ H xs vs → blsOf xs = some bs → vs = bs.map V.bl
  | _, _, _, .nil, e => by cases e; rfl
  | _, _, _, .cons (d := d) h t, e => by
    cases d <;> simp only [blsOf, reduceCtorEq] at e
    obtain ⟨bs, e1, e2⟩ := Option.map_eq_some_iff.mp e
    subst e2
    cases h
    rw [bls_rep t e1]; rfl
theorem ints_rep {K : PySem.W.Frag} {ca : CA} {ρ : List Addr} : ∀ {xs : List D} {vs : List V} {bs : List Int}, Reps K ca ρ H xs vs → intsOf xs = some bs → vs = bs.map V.int
  | _, _, _, .nil, e => by cases e; rfl
  | _, _, _, .cons (d := d) h t, e => by
    cases d <;> simp only [intsOf, reduceCtorEq] at e
    obtain ⟨bs, e1, e2⟩ := Option.map_eq_some_iff.mp e
    subst e2
    cases h
    rw [ints_rep t e1]; rfl
theorem ok_all : B1Ok g allO (rAll g.K) := by
  intro F st σ H x z v Q ok rx e q
  obtain ⟨xs, e1, e⟩ := Option.bind_eq_some_iff.mp e
  obtain ⟨bs, e2, e3⟩ := Option.map_eq_some_iff.mp e
  subst e3
  obtain ⟨a, vs, rfl, h, r⟩ := rx.lstO e1
  exact ⟨a, bs, rfl, by rw [← bls_rep r e2]; exact h, q _ _ Lk.refl ok (.bl _)⟩
theorem ok_any : B1Ok g anyO (rAny g.K) := by
  intro F st σ H x z v Q ok rx e q
  obtain ⟨xs, e1, e⟩ := Option.bind_eq_some_iff.mp e
  obtain ⟨bs, e2, e3⟩ := Option.map_eq_some_iff.mp e
  subst e3
  obtain ⟨a, vs, rfl, h, r⟩ := rx.lstO e1
  exact ⟨a, bs, rfl, by rw [← bls_rep r e2]; exact h, q _ _ Lk.refl ok (.bl _)⟩
theorem ok_sum : B1Ok g sumO (rSum g.K) := by
  intro F st σ H x z v Q ok rx e q
  obtain ⟨xs, e1, e⟩ := Option.bind_eq_some_iff.mp e
  obtain ⟨bs, e2, e3⟩ := Option.map_eq_some_iff.mp e
  subst e3
  obtain ⟨a, vs, rfl, h, r⟩ := rx.lstO e1
  exact ⟨a, bs, rfl, by rw [← ints_rep r e2]; exact h, q _ _ Lk.refl ok (.int _)⟩
theorem maxL_is : ∀ {bs : List Int} {m : Int}, m ∈ bs → (∀ y, y ∈ bs → y ≤ m) → maxL bs = m
  | [], _, h, _ => by cases h
  | [x], m, h, _ => by simpa [maxL, eq_comm] using h
  | x :: y :: r, m, h, k => by
    show max x (maxL (y :: r)) = m
    have hx := k x (by simp)
    rcases List.mem_cons.mp h with rfl | h
    · have : maxL (y :: r) ≤ m := by
        have key : ∀ (l : List Int), l ≠ [] → (∀ z, z ∈ l → z ≤ m) → maxL l ≤ m := by
          intro l
          induction l with
          | nil => intro h; exact absurd rfl h
          | cons a l ih =>
            intro _ hk
            cases l with
            | nil => exact hk a (by simp)
            | cons b l =>
              show max a (maxL (b :: l)) ≤ m
              have := ih (by simp) (fun z hz => hk z (List.mem_cons_of_mem _ hz))
              have := hk a (by simp)
              omega
        exact key _ (by simp) fun z hz => k z (List.mem_cons_of_mem _ hz)
      omega
    · rw [maxL_is h fun z hz => k z (List.mem_cons_of_mem _ hz)]
      omega
theorem minL_is : ∀ {bs : List Int} {m : Int}, m ∈ bs → (∀ y, y ∈ bs → m ≤ y) → minL bs = m
  | [], _, h, _ => by cases h
  | [x], m, h, _ => by simpa [minL, eq_comm] using h
  | x :: y :: r, m, h, k => by
    show min x (minL (y :: r)) = m
    have hx := k x (by simp)
    rcases List.mem_cons.mp h with rfl | h
    · have : m ≤ minL (y :: r) := by
        have key : ∀ (l : List Int), l ≠ [] → (∀ z, z ∈ l → m ≤ z) → m ≤ minL l := by
          intro l
          induction l with
          | nil => intro h; exact absurd rfl h
          | cons a l ih =>
            intro _ hk
            cases l with
            | nil => exact hk a (by simp)
            | cons b l =>
              show m ≤ min a (minL (b :: l))
              have := ih (by simp) (fun z hz => hk z (List.mem_cons_of_mem _ hz))
              have := hk a (by simp)
              omega
        exact key _ (by simp) fun z hz => k z (List.mem_cons_of_mem _ hz)
      omega
    · rw [minL_is h fun z hz => k z (List.mem_cons_of_mem _ hz)]
      omega
theorem ok_max : B1Ok g maxO (rMax g.K) := by
  intro F st σ H x z v Q ok rx e q
  obtain ⟨xs, e1, e⟩ := Option.bind_eq_some_iff.mp e
  obtain ⟨bs, e2, e⟩ := Option.bind_eq_some_iff.mp e
  split at e
  · cases e
  · rename_i hne
    cases e
    obtain ⟨a, vs, rfl, h, r⟩ := rx.lstO e1
    refine ⟨a, bs, rfl, by rw [← ints_rep r e2]; exact h, ?_, fun m hm hk => ?_⟩
    · cases bs with
      | nil => exact absurd rfl hne
      | cons _ _ => simp
    · rw [← maxL_is hm hk]; exact q _ _ Lk.refl ok (.int _)
theorem ok_min : B1Ok g minO (rMin g.K) := by
  intro F st σ H x z v Q ok rx e q
  obtain ⟨xs, e1, e⟩ := Option.bind_eq_some_iff.mp e
  obtain ⟨bs, e2, e⟩ := Option.bind_eq_some_iff.mp e
  split at e
  · cases e
  · rename_i hne
    cases e
    obtain ⟨a, vs, rfl, h, r⟩ := rx.lstO e1
    refine ⟨a, bs, rfl, by rw [← ints_rep r e2]; exact h, ?_, fun m hm hk => ?_⟩
    · cases bs with
      | nil => exact absurd rfl hne
      | cons _ _ => simp
    · rw [← minL_is hm hk]; exact q _ _ Lk.refl ok (.int _)

/-! ### isinstance -/
def tyD : D → Option Ty
  | .non => some (.b "NoneType")
  | .bl _ => some (.b "bool")
  | .int _ => some (.b "int")
  | .str _ => some (.b "str")
  | .tup _ => some (.b "tuple")
  | .lst _ | .frl _ => some (.b "list")
  | .dct _ => some (.b "dict")
  | .ins c _ => some (.c c)
  | _ => none
def isiAny (t : Gd) (x : Ty) : List Ty → Option Bool
  | [] => some false
  | q :: r => (match t.isi x q with
    | some true => some true
    | some false => isiAny t x r
    | none => none)
def mIsi (t : Gd) (q : Ty) (m : M Hd) : M Hd := bnd m fun h => bnd (look h) fun d => bnd (opt (tyD d)) fun ty => bnd (opt (t.isi ty q)) fun b => ret (.d (.bl b))
def mIsiT (t : Gd) (qs : List Ty) (m : M Hd) : M Hd := bnd m fun h => bnd (look h) fun d => bnd (opt (tyD d)) fun ty => bnd (opt (isiAny t ty qs)) fun b => ret (.d (.bl b))
theorem ty_of {K : PySem.W.Frag} {d : D} {v : V} {ty : Ty} (hK : K = g.K) (hi : ∀ c, ty = .c c → InsT K (g.ca.cl c)) (r : RepC K g.ca F.ρ (hide F.W H) H d v) (e : tyD d = some ty) : TyX K H v (g.tv ty) := by
  cases d <;> simp only [tyD, reduceCtorEq, Option.some.injEq] at e <;> subst e
  · cases r.non; exact .base .non
  · cases r.bl; exact .base (.bl _)
  · cases r.int; exact .base (.int _)
  · cases r.str; exact .base (.str _)
  · obtain ⟨a, vs, rfl, h, _⟩ := r.tup
    rcases h with (h | ⟨o, h⟩) | ⟨o, its, n, h1, h2, _⟩
    · exact .base (.tup h)
    · exact .fTuple h
    · exact .kTuple h1 h2
  · obtain ⟨a, vs, rfl, h, _⟩ := r.lst
    exact .base (.lst h)
  · obtain ⟨a, vs, rfl, h, _⟩ := r.frl
    rcases h with (h | ⟨o, h⟩) | ⟨o, its, n, h1, h2, _⟩
    · exact .base (.lst h)
    · exact .base (.frz h)
    · exact .kList h1 h2
  · obtain ⟨a, vs, rfl, h, _⟩ := r.dct
    rcases h with h | ⟨o, h⟩
    · exact .base (.dK h)
    · exact .fDict h
  · obtain ⟨a, dx, vs, rfl, h, _⟩ := r.ins
    have i := hi _ rfl
    exact .base (.ins h i.cl i.ha i.hn i.htk i.hm)
theorem cls_v (q : Ty) : ClsV (g.tV q) (g.tv q) := by
  cases q
  · exact .ty _
  · exact .own _
theorem rf_isi {te : Expr} {q : Ty} (hK : X.K = g.K) (C : ClsF g) (hg : Gl X "isinstance") (hm : X.mg "isinstance" = none) (ha : PE X e (RE g E m)) (ht : PE X te (tC (g.tV q)))
    (he : starEach (e :: [te]) X.env = (false, eval e X.env) :: starEach [te] X.env) (he2 : starEach (te :: []) X.env = (false, eval te X.env) :: starEach [] X.env) (hpl : (backTo pos (starEach [te] X.env)).any (·.1) = false) :
    PE X (.Call (.Name "isinstance" p) [e, te] [] pos) (RE g E (mIsi g.toGd q m)) :=
  (pe_callB call_isi hg hm (by rfl) (pa_cons ha (pa_cons ht pa_nil he2) he) (by decide) (by decide) he hpl).weak fun σ H Q ⟨F, st, w⟩ =>
  ⟨F, st, (RFw.bind (R := RH g) w).mono fun v H1 ⟨F1, h1, st1, l1, r1, w⟩ => by
    obtain ⟨d, rd, w⟩ := w.look_bind r1
    obtain ⟨ty, e1, w⟩ := w.opt_bind
    obtain ⟨b, e2, w⟩ := w.opt_bind
    rw [← hK] at rd
    have tx := ty_of (g := g) hK (fun c ec => by rw [hK]; exact C.ity c q b (by rw [← ec]; exact e2)) rd e1
    exact ⟨v, _, _, _, b, rfl, cls_v q, tx, by rw [hK]; exact C.isi _ _ _ e2, w.here (.bl b)⟩⟩
theorem kit_any {ty : Ty} (C : ClsF g) : ∀ {qs : List Ty} {b : Bool}, isiAny g.toGd ty qs = some b → PySem.W.kitAny g.K (g.tv ty) (qs.map g.tv) = some b
  | [], b, e => by cases e; rfl
  | q :: qs, b, e => by
    unfold isiAny at e
    show PySem.W.kitAny g.K (g.tv ty) (g.tv q :: qs.map g.tv) = some b
    unfold PySem.W.kitAny
    cases h : g.isi ty q with
    | none => rw [h] at e; cases e
    | some k =>
      rw [h] at e
      rw [C.isi _ _ _ h]
      cases k with
      | true => cases e; rfl
      | false => exact kit_any C e
theorem cls_vs : ∀ qs : List Ty, Paired ClsV (qs.map g.tV) (qs.map g.tv)
  | [] => .nil
  | q :: qs => .cons (cls_v q) (cls_vs qs)
theorem isiAny_ty {t : Gd} {ty : Ty} : ∀ {qs : List Ty} {b : Bool}, isiAny t ty qs = some b → qs ≠ [] → ∃ q b', t.isi ty q = some b'
  | [], _, _, h => absurd rfl h
  | q :: qs, b, e, _ => by
    unfold isiAny at e
    cases h : t.isi ty q with
    | none => rw [h] at e; cases e
    | some k => exact ⟨q, k, h⟩
/-- the classes of isinstance's tuple -/
def tTys (vs : List V) : TA := fun _ H Q => Q vs H
theorem rf_isiT {tes : List Expr} {qs : List Ty} {x1 : Nat} {p3 : Pos} (hK : X.K = g.K) (C : ClsF g) (hq : qs ≠ []) (hq2 : qs.length ≤ 1000) (hg : Gl X "isinstance") (hm : X.mg "isinstance" = none) (ha : PE X e (RE g E m)) (ht : PA X tes (tTys (qs.map g.tV)))
    (he : starEach (e :: [.Tuple tes x1 p3]) X.env = (false, eval e X.env) :: starEach [.Tuple tes x1 p3] X.env) (he2 : starEach (.Tuple tes x1 p3 :: []) X.env = (false, eval (.Tuple tes x1 p3) X.env) :: starEach [] X.env) (hpl : (backTo pos (starEach [.Tuple tes x1 p3] X.env)).any (·.1) = false) :
    PE X (.Call (.Name "isinstance" p) [e, .Tuple tes x1 p3] [] pos) (RE g E (mIsiT g.toGd qs m)) :=
  (pe_callB call_isiT hg hm (by rfl) (pa_cons ha (pa_cons (pe_tup ht) pa_nil he2) he) (by decide) (by decide) he hpl).weak fun σ H Q ⟨F, st, w⟩ =>
  ⟨F, st, (RFw.bind (R := RH g) w).mono fun v H1 ⟨F1, h1, st1, l1, r1, w⟩ => by
    obtain ⟨d, rd, w⟩ := w.look_bind r1
    obtain ⟨ty, e1, w⟩ := w.opt_bind
    obtain ⟨b, e2, w⟩ := w.opt_bind
    refine ⟨by rw [List.length_map, sizeLine_eq]; omega, fun tp hp => ?_⟩
    have lk := w.1.lk_upd (o := .tup (qs.map g.tV)) hp
    have ok2 := w.1.upd (o := .tup (qs.map g.tV)) hp
    have r2 := RepH.lk lk r1
    have rd2 : RepC g.K g.ca F1.ρ (hide F1.W (upd H1 tp (.tup (qs.map g.tV)))) (upd H1 tp (.tup (qs.map g.tV))) d v := by
      rcases rd with rd | ⟨a, ev, t⟩
      · exact .inl (Rep.lk lk rd)
      · refine .inr ⟨a, ev, t.mono lk.sub (List.prefix_refl _) fun u q => ?_⟩
        rw [upd_ne (ne_of_none q hp)]; exact q
    rw [← hK] at rd2
    obtain ⟨q0, b0, e3⟩ := isiAny_ty e2 hq
    have tx := ty_of (g := g) hK (fun c ec => by rw [hK]; exact C.ity c q0 b0 (by rw [← ec]; exact e3)) rd2 e1
    exact ⟨v, tp, _, _, _, b, rfl, upd_same, cls_vs qs, tx, by rw [hK]; exact kit_any C e2, w.ret_end lk ok2 (.bl b)⟩⟩

/-! ### stars -/
/-- a list's items, then the rest -/
def mStar (m : M Hd) (ms : M (List D)) : M (List D) := bnd m fun h => bnd (look h) fun d => bnd (opt (seqOf d)) fun xs => bnd ms fun ys => ret (xs ++ ys)
theorem rf_star (hK : X.K = g.K) (he : PE X e (RE g E m)) (hr : PA X es (RA g E ms)) (hs : starEach (.Starred e p :: es) X.env = (true, eval e X.env) :: starEach es X.env) : PA X (.Starred e p :: es) (RA g E (mStar m ms)) :=
  (StX.pa_star he hr hs).weak fun σ H Q ⟨F, st, w⟩ => ⟨F, st, (RFw.bind (R := RH g) w).mono fun v H1 ⟨F1, h1, st1, l1, r1, w⟩ => by
    obtain ⟨d, rd, w⟩ := w.look_bind r1
    obtain ⟨xs, e1, w⟩ := w.opt_bind
    obtain ⟨a, vs, rfl, h, r⟩ := rd.seq e1
    rw [hK]
    refine ⟨a, vs, rfl, h.symm, F1, st1, (RFw.bind (R := RL g) w).mono fun us H2 ⟨F2, ys, st2, l2, r2, w⟩ => ?_⟩
    exact w.here ((r.lk l2).append r2)⟩
end
end Rf

set_option Elab.async false
set_option linter.all false
set_option maxRecDepth 100000
set_option maxHeartbeats 2000000
/-! Rf, part Y: lambdas without parameters. -/
namespace Rf
open PySem PySem.Spec PyProof.Rows L2

/-- a lambda's text -/
structure LamT where
  params : Arguments
  body : Expr
  scope : Scope
/-- the function object of a lambda made in env -/
def LamP (env : Env) (t : LamT) (f c' : Addr) : PySem.Heap → Prop := fun h => ∃ pm ctv, h.get? f = some (PySem.W.kla_obj "<lambda>" (env.qual ++ "<lambda>") t.params t.body t.scope (cloFrom env.cells t.scope.names []) pm c' ctv)
def LamC (q : Str) (c : Addr) : PySem.Heap → Prop := fun h => ∃ (oc : Obj) (vs : Array Value) (t : Tok), h.get? c = some oc ∧ oc.data = .fields vs ∧ vs[1]? = some (.str q t)
theorem lamC_eq (c : Addr) (q : Str) : HO.ext (LamC q c) = LamX.CodeO c q := rfl
section
variable {X : Cx} {pins : List (Addr × Obj)} {σ : L2.St} {H : Hp} {s : Shared}
theorem ext_ok {P : Program} {w : World} {H : Hp} {h : PySem.Heap} {f c' : Addr} {env : Env} {t : LamT} (x : LamP env t f c' h) : ObjOk P w H h f (.ext (LamP env t f c')) := by
  obtain ⟨pm, ctv, e⟩ := x
  exact ⟨⟨pm, ctv, e⟩, ⟨_, e⟩, fun h1 h2 ⟨pm, ctv, e⟩ k => ⟨pm, ctv, k _ e⟩⟩
theorem lam_make3 {T : List (Addr × Str)} {c P : Addr} {t : LamT} {pos : Pos} {E : Value → Shared → Prop} {Q : Value → Shared → Prop} (I : Inv X pins σ H s) (TB : LamX.TabB X.base X.mg c P) (hcode : X.env.code = .ref c)
    (hm : (P, X.env.qual ++ "<lambda>") ∈ T) (hu : ∀ p ∈ T, p.1 = P → p.2 = X.env.qual ++ "<lambda>") (hT : LamX.Tabs T H) (hdef : defaultsOf t.params X.env = ([], [])) (hfree : ∀ y ∈ t.scope.names, y.2 = .free → ∃ c, X.env.cells.lookup y.1 = some c)
    (h : ∀ (f c' : Addr) (H1 : Hp) (s' : Shared), Inv X pins σ (upd H1 f (.ext (LamP X.env t f c'))) s' → LamX.ExtN H H1 → LamX.Tabs T H1 → H1 f = none → H f = none → (∀ a, H a ≠ none → H1 a ≠ none) → H1 c' = some (LamX.CodeO c' (X.env.qual ++ "<lambda>")) → Q (.ref f) s') :
    wpAny (model X.prog X.w) X.A (eval (.Lambda t.params t.body t.scope pos) X.env) Q E s := by
  obtain ⟨ps, hP, ht, ha⟩ := hT _ hm
  refine PySem.W.kla_eval hdef ?_
  have bP : s.heap.BuiltinsAt X.mg P := TB.bm.keeps I.bk
  have hP' : s.heap.get? P = some { cls := .none, data := .fields ps } := I.hok P _ hP
  cases hc : codeAmong pos ps.toList with
  | none =>
    refine PySem.W.kla_makeFunction (mg := X.mg) (c := c) (P := P) (ps := ps) (closure_ok hfree) I.ok.glob (I.mod.glob.keeps I.bk) hcode (TB.code.keeps I.bk) hP' ht hc TB.gP bP fun c' ctv h' tk hx hge hlt hrec htb => ?_
    obtain ⟨c2, oc, vs, tt, e2, hoc, hd, hv⟩ := hrec
    cases e2
    have hsz : s.heap.objs.size ≤ h'.objs.size := Nat.le_trans hge (Nat.le_of_lt hlt)
    have nC : H c' = none := I.hok.fresh hge
    have I1 := LamX.inv_table (t' := tk) (more := #[rawInt pos.line, rawInt pos.col, .ref c']) (h' := h') I hP (fun b o hb e => hx b o hb e) htb hge ⟨oc, vs, tt, hoc, hd, hv⟩
    have new : LamP X.env t h'.objs.size c' (h'.push (PySem.W.kla_obj "<lambda>" (X.env.qual ++ "<lambda>") t.params t.body t.scope (cloFrom X.env.cells t.scope.names []) ((X.mg "__name__").getD .none) c' ctv)) := ⟨_, _, Heap.get?_push_size _ rfl⟩
    have I2 := I1.laid (t' := tk) (a := h'.objs.size) (o := .ext (LamP X.env t h'.objs.size c')) (h' := h'.push (PySem.W.kla_obj "<lambda>" (X.env.qual ++ "<lambda>") t.params t.body t.scope (cloFrom X.env.cells t.scope.names []) ((X.mg "__name__").getD .none) c' ctv)) (fun b u q => Heap.get?_push_of_some _ q) (Nat.le_refl _) (ext_ok new)
    have nf : H h'.objs.size = none := I.hok.fresh hsz
    have hE : LamX.ExtN H (upd (upd H P (.tbl (ps ++ #[rawInt pos.line, rawInt pos.col, .ref c']))) c' (LamX.CodeO c' (X.env.qual ++ "<lambda>"))) := fun b o e n => by
      rw [upd_ne (ne_of_none e nC), upd_ne (fun z => n ps (Option.some.inj (e.symm.trans (by rw [z]; exact hP))))]
      exact e
    have eL : (ps ++ #[rawInt pos.line, rawInt pos.col, .ref c']).toList = ps.toList ++ [rawInt pos.line, rawInt pos.col, .ref c'] := by simp
    have nPc : P ≠ c' := ne_of_none hP nC
    refine h h'.objs.size c' _ _ I2 hE (fun p hp => ?_) ?_ nf (fun a na => ?_) upd_same
    · by_cases hb : p.1 = P
      · rw [hu p hp hb, hb]
        refine ⟨_, by rw [upd_ne nPc, upd_same], by rw [eL]; exact PySem.TriplesOk_snoc _ _ _ _ ht, fun p' cv hcv => ?_⟩
        rw [eL] at hcv
        rcases LamX.among_app _ ht hcv with z | z
        · obtain ⟨c0, e1, e2⟩ := ha p' cv z
          exact ⟨c0, e1, hE _ _ e2 LamX.codeO_ne⟩
        · exact ⟨c', z, upd_same⟩
      · obtain ⟨ps', a1, a2, a3⟩ := hT p hp
        refine ⟨ps', by rw [upd_ne (ne_of_none a1 nC), upd_ne hb]; exact a1, a2, fun p' cv hcv => ?_⟩
        obtain ⟨c0, e1, e2⟩ := a3 p' cv hcv
        exact ⟨c0, e1, hE _ _ e2 LamX.codeO_ne⟩
    · have n1 : h'.objs.size ≠ c' := Nat.ne_of_gt hlt
      have n2 : h'.objs.size ≠ P := Nat.ne_of_gt (Nat.lt_of_lt_of_le (Heap.lt_size hP') hsz)
      rw [upd_ne n1, upd_ne n2]
      exact nf
    · exact dom_upd (dom_upd na)
  | some cv =>
    obtain ⟨c', e, hco⟩ := ha pos cv hc
    subst e
    refine PySem.W.kla_makeFunctionHit (mg := X.mg) (c := c) (P := P) (ps := ps) (closure_ok hfree) I.ok.glob (I.mod.glob.keeps I.bk) hcode (TB.code.keeps I.bk) hP' ht hc bP fun ctv h' tk hx hsz => ?_
    have new : LamP X.env t h'.objs.size c' (h'.push (PySem.W.kla_obj "<lambda>" (X.env.qual ++ "<lambda>") t.params t.body t.scope (cloFrom X.env.cells t.scope.names []) ((X.mg "__name__").getD .none) c' ctv)) := ⟨_, _, Heap.get?_push_size _ rfl⟩
    have I1 := I.laid (t' := tk) (a := h'.objs.size) (o := .ext (LamP X.env t h'.objs.size c')) (h' := h'.push (PySem.W.kla_obj "<lambda>" (X.env.qual ++ "<lambda>") t.params t.body t.scope (cloFrom X.env.cells t.scope.names []) ((X.mg "__name__").getD .none) c' ctv)) (fun b o e => Heap.get?_push_of_some _ (hx b o e)) hsz (ext_ok new)
    have nf : H h'.objs.size = none := I.hok.fresh hsz
    exact h h'.objs.size c' H _ I1 (LamX.ExtN.refl H) hT nf nf (fun a na => na) hco
end
def mLam (n : Nat) : M Hd := ret (.d (.lam n))
/-- the lambdas of a def whose frame is env -/
def LamsOk (g : G) (env : Env) (lt : Nat → Option LamT) : Prop := ∀ n t, lt n = some t → (∀ f c', g.ca.lam n f c' = LamP env t f c') ∧ ∀ c', g.ca.code n c' = LamC (env.qual ++ "<lambda>") c'
section
variable {g : G} {X : Cx} {E : L2.WX} {F : Fm} {st : Stt} {σ : L2.St} {H : Hp} {lt : Nat → Option LamT} {n : Nat} {t : LamT} {pos : Pos}
theorem rf_lam {c P : Addr} (hl : LamsOk g X.env lt) (hn : lt n = some t) (TB : LamX.TabB X.base X.mg c P) (hcode : X.env.code = .ref c) (hm : (P, X.env.qual ++ "<lambda>") ∈ g.ca.T) (hu : ∀ p ∈ g.ca.T, p.1 = P → p.2 = X.env.qual ++ "<lambda>")
    (L : LamX.LamS X.env.scope t.scope) (hdef : defaultsOf t.params X.env = ([], [])) : PE X (.Lambda t.params t.body t.scope pos) (RE g E (mLam n)) := by
  refine ⟨fun pins s σ H Q I ⟨F, st, w⟩ => ?_⟩
  obtain ⟨ok, w⟩ := w
  refine lam_make3 I TB hcode hm hu ok.tab hdef (L.has I.ok) fun f c' H1 s' I1 eN T1 nf1 nf dm hco => ?_
  obtain ⟨k1, k2⟩ := hl n t hn
  obtain ⟨l1, ok1⟩ := ok.extN eN T1 dm
  have l2 := ok1.lk_upd (o := .ext (LamP X.env t f c')) nf1
  have ok2 := ok1.upd (o := .ext (LamP X.env t f c')) nf1
  refine ⟨.ref f, _, I1, rfl, w F (.ref f) _ (l1.trans l2) ok2 ?_⟩
  have hc2 : upd H1 f (.ext (LamP X.env t f c')) c' = some (LamX.CodeO c' (X.env.qual ++ "<lambda>")) := by
    rw [upd_ne (ne_of_none hco nf1)]; exact hco
  refine Rep.lam (c := c') (by rw [k1]; exact ok1.seen nf1) ?_
  rw [k2]
  refine hide_of (fun wa => ?_) hc2
  obtain ⟨o, e1, _, e3⟩ := ok2.wmu wa
  rw [hc2] at e1; cases e1
  exact e3 _ rfl

/-! ### a lambda called in the def that got it -/
theorem pe_act2 {CXg : CXT} {Eg : XK} {Ng : List Str} {qg : Str} {sg : Scope} {gf : Addr} {cdg : Value} {k i : Nat} {a : Str} {pn : List (Addr × Obj)} {xe : Value → Shared → Prop} {W : WX} {tb : Nat → L2.St → XK → TE} {p1 p2 : Pos} {pins : List (Addr × Obj)} {s : Shared}
    (I : Inv X pins σ H s) (hl : LamsOk g X.env lt) (L : ∀ n t, lt n = some t → LamX.LamS X.env.scope t.scope)
    (hbind : ∀ n t, lt n = some t → ∀ (q : Str) (cl : List (Str × Addr)) (pm cv ctv : Value), bindArgs (PySem.W.kla_fn "<lambda>" q t.params t.body t.scope cl pm cv ctv) ⟨[], []⟩ = pure [])
    (tk : Takes ((cxOf CXg X.prog X.w X.K X.mg X.base Ng qg sg gf cdg X.A X.stack s H Eg).tr pn xe) W) (hr : Room (k + 1) (X.A.deeper (envOfC qg sg s.heap.objs.size gf cdg)))
    (hbody : ∀ n t, lt n = some t → ∀ (f c' : Addr) (A : Around) (outer : List Env) (s : Shared) (H : Hp) (σZ : L2.St), Room k (A.deeper (LamX.lamEnv X t.scope s.heap.objs.size f c')) → PE (LamX.lamCx X A outer s H (WE W σZ) t.scope f c') t.body (tb n σZ (WE W σZ)))
    (hN : Ng[i]? = some a) (hv : Vis sg a) (hd : (a == ("__debug__" : Str)) = false) (hcd : (a == ("__classdict__" : Str)) = false) :
    PE ((cxOf CXg X.prog X.w X.K X.mg X.base Ng qg sg gf cdg X.A X.stack s H Eg).tr pn xe) (.Call (.Name a p1) [] [] p2)
      (fun σZ HZ Q => ∃ n t f c', lt n = some t ∧ σZ[i]? = some (some (.ref f)) ∧ HZ f = some (.ext (g.ca.lam n f c')) ∧ HZ c' = some (.ext (g.ca.code n c')) ∧ tb n σZ (WE W σZ) σ HZ Q) := by
  refine ⟨fun pinsZ sZ σZ HZ Q IZ h => ?_⟩
  obtain ⟨n, t, f, c', hn, hs, hf, hc, ht⟩ := h
  obtain ⟨k1, k2⟩ := hl n t hn
  rw [k1] at hf
  rw [k2] at hc
  have L' := L n t hn
  refine wpAny_Call_Name_kw (thn ((pe_var (pos := p1) (i := i) hN hv hd hcd).run pinsZ sZ σZ HZ (fun v H1 => v = .ref f ∧ H1 = HZ) IZ ⟨.ref f, hs, rfl, rfl⟩) fun u s1 ⟨v, H1, I1, r1, q1⟩ => ?_)
  obtain ⟨ev, eH⟩ := q1
  subst ev
  rw [eH] at I1
  obtain rfl : u = Value.ref f := r1
  obtain ⟨⟨pm, ctv, of1⟩, _, _⟩ := (show ObjOk X.prog X.w HZ s1.heap f (.ext (LamP X.env t f c')) from I1.hok f _ hf)
  refine PySem.W.callWith_F0 ⟨_, _, _, _, of1⟩ ?_
  have un : Un (frs X.stack) [] H HZ s.heap s1.heap := I1.base
  obtain ⟨⟨oc, vs, tt, hoc, hdc, hvc⟩, _, _⟩ := (show ObjOk X.prog X.w HZ s1.heap c' (.ext (LamC (X.env.qual ++ "<lambda>") c')) from I1.hok c' _ hc)
  have rc : codeAny (model X.prog X.w) (X.A.deeper (envOfC qg sg s.heap.objs.size gf cdg)) (.call (.ref f) ⟨[], []⟩) (CR (L2.CX X.prog X.w) (envOfC qg sg s.heap.objs.size gf cdg :: X.stack) X.prog X.w HZ s1 Q (WE W σZ)) s1 := by
    refine PySem.W.kla_callFunE hr.depth of1 rfl L'.co L'.gen rfl ⟨c', oc, vs, tt, rfl, hoc, hdc, hvc⟩ ?_
    rw [hbind n t hn]
    refine wpAny_pure (wpAny_newFunctionEnv (fun y hy => (L'.own y hy).2) (fun y hy => absurd hy (by simp)) (fun h₁ hns hsb => ⟨I1.nolimit.fresh _ hsb, ?_⟩) L'.kind)
    show codeAny _ _ (.expr t.body (LamX.lamEnv X t.scope s1.heap.objs.size f c')) _ _
    have kp : ∀ b o, s1.heap.get? b = some o → h₁.get? b = some o := fun b o e => hsb.extBut b o (Nat.ne_of_lt (Heap.lt_size e)) (Heap.get?_push_of_some _ e)
    have J : Inv (LamX.lamCx X (X.A.deeper (envOfC qg sg s.heap.objs.size gf cdg)) (envOfC qg sg s.heap.objs.size gf cdg :: X.stack) s1 HZ (WE W σZ) t.scope f c') [] σ HZ { s1 with heap := h₁, toks := s1.toks + ([] : List (Str × Value)).length } :=
      LamX.lam_start2 I L' I1.env0 hr.hd un hns kp
    refine PySem.W.kla_codeExpr (wpAny_mono ((hbody n t hn _ _ _ _ s1 HZ σZ (hr.deeper _)).run [] _ _ HZ Q J ht) (fun v s' hq => ?_) fun e s' hq => hq)
    obtain ⟨w', H', J', rv, q⟩ := hq
    exact ⟨w', H', J'.os, J'.bare, J'.base, J'.hok, rv, q⟩
  have hx := passAt (X := (cxOf CXg X.prog X.w X.K X.mg X.base Ng qg sg gf cdg X.A X.stack s H Eg).tr pn xe) tk σZ
  refine wpAny_call (codeAny_mono rc fun r s' hq => ?_)
  cases r with
  | error e => exact hx pinsZ HZ s1 e s' I1 hq
  | ok fl =>
    cases fl with
    | ret u => exact I1.after hq
    | next => exact False.elim hq
    | brk => exact False.elim hq
    | cont => exact False.elim hq
end
end Rf

set_option Elab.async false
set_option linter.all false
set_option maxRecDepth 100000
set_option maxHeartbeats 2000000
/-! Rf, part Z: a def that is told a lambda (_law_refused, _law_tried). -/
namespace Rf
open PySem PySem.Spec PyProof.Rows L2

def hansw (sub : Nat → Nat → Option Bool) : List (Nat × Nat × HE) → Nat → List (Str × D) → Option D
  | [], _, _ => none
  | (h, _, e) :: r, c, fs => (match sub c h with
    | some true => if c = h then e.ev fs else none
    | some false => hansw sub r c fs
    | none => none)
def toldK (sub : Nat → Nat → Option Bool) (lb : Nat → M Hd) (an : List (Nat × Nat × HE)) (z0 : Option D) : D → M Hd
  | .lam n => fun s => (match lb n s with
    | .ok h' s' => (match z0 with
      | some z => .ok (.d z) s'
      | none => (match toD false h' s' with
        | .ok d s'' => .ok (.d d) s''
        | _ => .bad))
    | .exc c fs s' => (match hansw sub an c fs with
      | some z => .ok (.d z) s'
      | none => .bad)
    | .bad => .bad)
  | _ => bad
/-- f(lambda): what the lambda comes to; z0: what the def answers where no exception comes (none: what the lambda gave) -/
def mTold (sub : Nat → Nat → Option Bool) (lb : Nat → M Hd) (an : List (Nat × Nat × HE)) (z0 : Option D) (m : M Hd) : M Hd := bnd m fun h => bnd (toD false h) (toldK sub lb an z0)
inductive AnsOk (g : G) (Z : Cx) : List ExceptHandler → List (Nat × Nat × HE) → Prop
  | nil : AnsOk g Z [] []
  | consAs {x n : Str} {i h : Nat} {he : HE} {b₀ : Stmt} {suite : List Stmt} {np pos' : PySem.Pos} {hds : List ExceptHandler} {l : List (Nat × Nat × HE)} (hc : Names Z x (.ref (g.ca.cl h))) (hi : Z.N[i]? = some n) (hln : Z.env.kindOf n = some .local)
      (hsu : ∀ (a : Addr) (oe : Obj) (cls : Value) (d : Option Addr) (pn : List (Addr × Obj)), Zc cls d oe → (∃ vs, oe.data = .fields vs) → PSs (Z.suite a ((a, oe) :: pn)) (b₀ :: suite) (fun D0 σ H => RX g a cls d i h he σ H D0.rt)) (r : AnsOk g Z hds l) :
      AnsOk g Z (.ExceptHandler (some (.Name x np)) (some n) (b₀ :: suite) pos' :: hds) ((h, i, he) :: l)
section
variable {g : G} {Z X : Cx} {sub : Nat → Nat → Option Bool}
theorem ans_hcs {hds : List ExceptHandler} {l : List (Nat × Nat × HE)} (h : AnsOk g Z hds l) : ∃ l', HcsOk Z hds l' ∧ ∀ (D0 : Ends) (c : Nat) (fs : List (Str × D)) (st : Stt) (F : Fm) (σf σZ : L2.St) (H : Hp) (dx : Addr) (K : PySem.W.Frag) (W : WX) (z : D), K = g.K → XSub g sub → FrOk g.K g.ca F st σf H → ExD g F H dx fs →
    σZ.length = Z.N.length → hansw sub l c fs = some z → (∀ F' H' v, Lk F H F' H' → FrOk g.K g.ca F' st σf H' → Rep g.K g.ca F'.ρ (hide F'.W H') z v → D0.rt v H') → wMix K W D0 l' (.ref (g.ca.cl c)) (some dx) σZ H := by
  induction h with
  | nil => exact ⟨[], .nil, fun D0 c fs st F σf σZ H dx K W z eK hs ok x hl w => by cases w⟩
  | @consAs x n i h he b₀ suite np pos' hds l hc hi hln hsu r ih =>
    obtain ⟨l', k1, k2⟩ := ih
    refine ⟨_, .consAs hc hi hln hsu k1, fun D0 c fs st F σf σZ H dx K W z eK hs ok x hl w q => ?_⟩
    unfold hansw at w
    cases e : sub c h with
    | none => simp only [e] at w; cases w
    | some b =>
      simp only [e] at w
      refine ⟨b, by rw [eK]; exact hs c h b e, fun hb a na => ?_, fun hb => ?_⟩
      · subst hb
        dsimp only at w
        split at w
        · rename_i ec
          subst ec
          refine ⟨F, st, σf, fs, dx, z, ok, ?_, rfl, rfl, x, w, q⟩
          rw [List.getElem?_set_self (by rw [hl]; exact (List.getElem?_eq_some_iff.mp hi).1)]
        · cases w
      · subst hb
        exact k2 D0 c fs st F σf σZ H dx K W z eK hs ok x hl w q
theorem start_len {N : List Str} {v : V} {a : Str} (h : N[0]? = some a) : (L2.start N [v]).length = N.length := by
  have : 0 < N.length := (List.getElem?_eq_some_iff.mp h).1
  unfold L2.start
  simp only [List.length_append, List.length_map, List.length_replicate, List.length_cons, List.length_nil]
  omega
theorem start_0 {N : List Str} {v : V} : (L2.start N [v])[0]? = some (some v) := by
  unfold L2.start; rfl
abbrev ZC (X : Cx) (Ng : List Str) (x : Str) (sg : Scope) (gf : Addr) (cdg : Value) (s : Shared) (H : Hp) : Cx := cxOf C8.CX0 X.prog X.w X.K X.mg X.base Ng x sg gf cdg X.A X.stack s H C8.E0
/-- x(e), x: try: a() / except ..: return .. / return r -/
theorem rf_told {lt : Nat → Option LamT} {lb : Nat → M Hd} {an : List (Nat × Nat × HE)} {m : M Hd} {E : WX} {x a r : Str} {gf : Addr} {k j : Nat} {pg : Arguments} {sg : Scope} {dV kV doc pm cdv ct oc : Value} {ann od : Option Addr} {osl : Array (Option Value)} {Ng : List Str} {e : Expr} {h₀ : ExceptHandler} {hds : List ExceptHandler}
    {p pos p1 p2 p3 p8 p9 p10 : PySem.Pos} (hK : X.K = g.K) (hl : LamsOk g X.env lt) (L : ∀ n t, lt n = some t → LamX.LamS X.env.scope t.scope)
    (hbind : ∀ n t, lt n = some t → ∀ (q : Str) (cl : List (Str × Addr)) (pm cv ctv : Value), bindArgs (PySem.W.kla_fn "<lambda>" q t.params t.body t.scope cl pm cv ctv) ⟨[], []⟩ = pure [])
    (hg : Gl X x) (hm : X.mg x = some (.ref gf)) (hk : PySem.W.keepIn X.K (.ref gf) = true) (hdb : (x == ("__debug__" : Str)) = false)
    (lk : X.K.lookup gf = some ⟨oc, od, .func (PySem.W.fnOf x x pg [.Try [.Expr (.Call (.Name a p1) [] [] p2) p3] (h₀ :: hds) [] [] p8, .Return (some (.Constant (.str r) j p9)) p10] sg dV kV doc pm ann cdv ct), osl⟩) (hcg : PySem.W.codeIn X.K cdv x = true)
    (hb : L2.Binds X.K (PySem.W.fnOf x x pg [.Try [.Expr (.Call (.Name a p1) [] [] p2) p3] (h₀ :: hds) [] [] p8, .Return (some (.Constant (.str r) j p9)) p10] sg dV kV doc pm ann cdv ct) [a] []) (Sg : FnScope Ng [a] sg) (hN0 : Ng[0]? = some a) (hva : Vis sg a)
    (hd : (a == ("__debug__" : Str)) = false) (hcd : (a == ("__classdict__" : Str)) = false) (hAns : ∀ s H, AnsOk g (ZC X Ng x sg gf cdv s H) (h₀ :: hds) an) (hsub : XSub g sub) (hr : Room (k + 2) X.A)
    (hbody : ∀ n t, lt n = some t → ∀ (f c' : Addr) (A : Around) (outer : List Env) (s : Shared) (H : Hp) (E : XK), Room k (A.deeper (LamX.lamEnv X t.scope s.heap.objs.size f c')) → PE (LamX.lamCx X A outer s H E t.scope f c') t.body (RE g (fun cls d _ H' => E cls d H') (lb n)))
    (hlt : ∀ n, (lt n).isSome = false → lb n = bad)
    (he : PE X e (RE g E m)) (hst : starEach [e] X.env = (false, eval e X.env) :: starEach [] X.env) (hpl : (backTo pos (starEach [] X.env)).any (·.1) = false) :
    PE X (.Call (.Name x p) [e] [] pos) (RE g E (mTold sub lb an (some (.str r)) m)) := by
  refine ⟨fun pins s σ H Q I ⟨F, st, w⟩ => ?_⟩
  refine wpAny_Call_Name_kw (ld_glob I hg hm ?_ hdb)
  refine PySem.W.callWith_K (h₀ := X.base) I.ok.mod.kin hk ?_ hst hpl
  have w1 := RFw.bind (R := RH g) w
  refine thn ((pa_cons he pa_nil hst).run pos pins s σ H (fun vs H1 => ∃ v, vs = [v] ∧ ∃ F1 h1 st1, Lk F H F1 H1 ∧ RH g F1 σ H1 h1 v ∧ RFw g (RH g) E (bnd (toD false h1) (toldK sub lb an (some (.str r)))) F1 st1 σ H1 Q) I ⟨F, st, w1.mono fun b H1 q => ⟨b, rfl, q⟩⟩) fun us s' ⟨vs, H1, I1, r1, v, ev, F1, h1, st1, l1, rh, w⟩ => ⟨I1.kIn, ?_⟩
  subst ev
  obtain ⟨F2, st2, d, l2, rd, w⟩ := w.toD_bind rh
  cases d <;> first | exact w.2.elim | skip
  rename_i n
  cases rd with
  | @lam _ f c' hf hc =>
    obtain ⟨ok2, w⟩ := w
    unfold toldK at w
    dsimp only at w
    have hf' := (hide_sub _ _).b.ext hf
    have hc' := (hide_sub _ _).b.ext hc
    cases hn : lt n with
    | none =>
      rw [hlt n (by rw [hn]; rfl)] at w
      exact w.elim
    | some t =>
      cases r1 with
      | @cons _ u _ us' ru rn =>
        cases rn
        obtain rfl : u = Value.ref f := ru
        have rc : codeAny (model X.prog X.w) X.A (.call (.ref gf) ⟨[.ref f], []⟩) (CR C8.CX0 X.stack X.prog X.w H1 s' Q C8.E0) s' := by
          refine LamX.run_ofS (N := Ng) (ps := [a]) (us := [.ref f]) (vs := [.ref f]) lk hcg Sg hr I1.env0 (hb s' [.ref f] I1.kIn rfl) (.cons rfl .nil) rfl fun hr' => ?_
          obtain ⟨l', k1, k2⟩ := ans_hcs (sub := sub) (hAns s' H1)
          refine ⟨_, pss_cons (ps_try_mix (tb := fun W => fun D0 σZ HZ => ∃ n t f c', lt n = some t ∧ σZ[0]? = some (some (.ref f)) ∧ HZ f = some (.ext (g.ca.lam n f c')) ∧ HZ c' = some (.ext (g.ca.code n c')) ∧ RE g (fun cls d _ H' => WE W σZ cls d H') (lb n) σ HZ fun v H' => D0.nx σZ H') rfl rfl Sg.nd LamX.takes0 (fun W pn xe tk _ => ?_) k1) (pss_one (ps_ret pe_str)), ?_⟩
          · have act := pe_act2 (g := g) (lt := lt) (tb := fun n σZ E => RE g (fun cls d _ H' => E cls d H') (lb n)) (p1 := p1) (p2 := p2) I1 hl L hbind tk hr' (fun n t hn f c' A outer s H σZ hr2 => hbody n t hn f c' A outer s H _ hr2) hN0 hva hd hcd
            exact pss_one ((ps_expr act rfl).weak fun D0 σZ HZ q => q)
          · refine ⟨n, t, f, c', hn, start_0, hf', hc', F2, st2, ok2, ?_⟩
            cases q : lb n st2 with
            | ok h' s3 =>
              simp only [q] at w
              intro F3 v3 H3 l3 ok3 r3
              exact w F3 (.str r) H3 l3 ok3 (.str r)
            | exc c fs s3 =>
              simp only [q] at w
              intro F3 H3 dx l3 ok3 x3
              cases hz : hansw sub an c fs with
              | none => simp only [hz] at w; exact w.elim
              | some z =>
                simp only [hz] at w
                exact k2 _ c fs s3 F3 σ _ H3 dx X.K _ z hK hsub ok3 x3 (start_len hN0) hz fun F4 H4 v4 l4 ok4 r4 => w F4 v4 H4 (l3.trans l4) ok4 r4
            | bad => simp only [q] at w; exact w.elim
        refine wpAny_call (codeAny_mono rc fun rr s2 hq => ?_)
        cases rr with
        | error e => exact (show False from hq).elim
        | ok fl =>
          cases fl with
          | ret u => exact I1.after hq
          | next => exact False.elim hq
          | brk => exact False.elim hq
          | cont => exact False.elim hq
/-- x(e), x: try: return a() / except ..: return .. -/
theorem rf_tried {lt : Nat → Option LamT} {lb : Nat → M Hd} {an : List (Nat × Nat × HE)} {m : M Hd} {E : WX} {x a : Str} {gf : Addr} {k : Nat} {pg : Arguments} {sg : Scope} {dV kV doc pm cdv ct oc : Value} {ann od : Option Addr} {osl : Array (Option Value)} {Ng : List Str} {e : Expr} {h₀ : ExceptHandler} {hds : List ExceptHandler}
    {p pos p1 p2 p3 p8 : PySem.Pos} (hK : X.K = g.K) (hl : LamsOk g X.env lt) (L : ∀ n t, lt n = some t → LamX.LamS X.env.scope t.scope)
    (hbind : ∀ n t, lt n = some t → ∀ (q : Str) (cl : List (Str × Addr)) (pm cv ctv : Value), bindArgs (PySem.W.kla_fn "<lambda>" q t.params t.body t.scope cl pm cv ctv) ⟨[], []⟩ = pure [])
    (hg : Gl X x) (hm : X.mg x = some (.ref gf)) (hk : PySem.W.keepIn X.K (.ref gf) = true) (hdb : (x == ("__debug__" : Str)) = false)
    (lk : X.K.lookup gf = some ⟨oc, od, .func (PySem.W.fnOf x x pg [.Try [.Return (some (.Call (.Name a p1) [] [] p2)) p3] (h₀ :: hds) [] [] p8] sg dV kV doc pm ann cdv ct), osl⟩) (hcg : PySem.W.codeIn X.K cdv x = true)
    (hb : L2.Binds X.K (PySem.W.fnOf x x pg [.Try [.Return (some (.Call (.Name a p1) [] [] p2)) p3] (h₀ :: hds) [] [] p8] sg dV kV doc pm ann cdv ct) [a] []) (Sg : FnScope Ng [a] sg) (hN0 : Ng[0]? = some a) (hva : Vis sg a)
    (hd : (a == ("__debug__" : Str)) = false) (hcd : (a == ("__classdict__" : Str)) = false) (hAns : ∀ s H, AnsOk g (ZC X Ng x sg gf cdv s H) (h₀ :: hds) an) (hsub : XSub g sub) (hr : Room (k + 2) X.A)
    (hbody : ∀ n t, lt n = some t → ∀ (f c' : Addr) (A : Around) (outer : List Env) (s : Shared) (H : Hp) (E : XK), Room k (A.deeper (LamX.lamEnv X t.scope s.heap.objs.size f c')) → PE (LamX.lamCx X A outer s H E t.scope f c') t.body (RE g (fun cls d _ H' => E cls d H') (lb n)))
    (hlt : ∀ n, (lt n).isSome = false → lb n = bad)
    (he : PE X e (RE g E m)) (hst : starEach [e] X.env = (false, eval e X.env) :: starEach [] X.env) (hpl : (backTo pos (starEach [] X.env)).any (·.1) = false) :
    PE X (.Call (.Name x p) [e] [] pos) (RE g E (mTold sub lb an none m)) := by
  refine ⟨fun pins s σ H Q I ⟨F, st, w⟩ => ?_⟩
  refine wpAny_Call_Name_kw (ld_glob I hg hm ?_ hdb)
  refine PySem.W.callWith_K (h₀ := X.base) I.ok.mod.kin hk ?_ hst hpl
  have w1 := RFw.bind (R := RH g) w
  refine thn ((pa_cons he pa_nil hst).run pos pins s σ H (fun vs H1 => ∃ v, vs = [v] ∧ ∃ F1 h1 st1, Lk F H F1 H1 ∧ RH g F1 σ H1 h1 v ∧ RFw g (RH g) E (bnd (toD false h1) (toldK sub lb an none)) F1 st1 σ H1 Q) I ⟨F, st, w1.mono fun b H1 q => ⟨b, rfl, q⟩⟩) fun us s' ⟨vs, H1, I1, r1, v, ev, F1, h1, st1, l1, rh, w⟩ => ⟨I1.kIn, ?_⟩
  subst ev
  obtain ⟨F2, st2, d, l2, rd, w⟩ := w.toD_bind rh
  cases d <;> first | exact w.2.elim | skip
  rename_i n
  cases rd with
  | @lam _ f c' hf hc =>
    obtain ⟨ok2, w⟩ := w
    unfold toldK at w
    dsimp only at w
    have hf' := (hide_sub _ _).b.ext hf
    have hc' := (hide_sub _ _).b.ext hc
    cases hn : lt n with
    | none =>
      rw [hlt n (by rw [hn]; rfl)] at w
      exact w.elim
    | some t =>
      cases r1 with
      | @cons _ u _ us' ru rn =>
        cases rn
        obtain rfl : u = Value.ref f := ru
        have rc : codeAny (model X.prog X.w) X.A (.call (.ref gf) ⟨[.ref f], []⟩) (CR C8.CX0 X.stack X.prog X.w H1 s' Q C8.E0) s' := by
          refine LamX.run_ofS (N := Ng) (ps := [a]) (us := [.ref f]) (vs := [.ref f]) lk hcg Sg hr I1.env0 (hb s' [.ref f] I1.kIn rfl) (.cons rfl .nil) rfl fun hr' => ?_
          obtain ⟨l', k1, k2⟩ := ans_hcs (sub := sub) (hAns s' H1)
          refine ⟨_, pss_one (ps_try_mix (tb := fun W => fun D0 σZ HZ => ∃ n t f c', lt n = some t ∧ σZ[0]? = some (some (.ref f)) ∧ HZ f = some (.ext (g.ca.lam n f c')) ∧ HZ c' = some (.ext (g.ca.code n c')) ∧ RE g (fun cls d _ H' => WE W σZ cls d H') (lb n) σ HZ fun v H' => D0.rt v H') rfl rfl Sg.nd LamX.takes0 (fun W pn xe tk _ => ?_) k1), ?_⟩
          · have act := pe_act2 (g := g) (lt := lt) (tb := fun n σZ E => RE g (fun cls d _ H' => E cls d H') (lb n)) (p1 := p1) (p2 := p2) I1 hl L hbind tk hr' (fun n t hn f c' A outer s H σZ hr2 => hbody n t hn f c' A outer s H _ hr2) hN0 hva hd hcd
            exact pss_one ((ps_ret act).weak fun D0 σZ HZ q => q)
          · refine ⟨n, t, f, c', hn, start_0, hf', hc', F2, st2, ok2, ?_⟩
            cases q : lb n st2 with
            | ok h' s3 =>
              simp only [q] at w
              intro F3 v3 H3 l3 ok3 r3
              cases qd : toD false h' s3 with
              | ok d s4 =>
                simp only [qd] at w
                obtain ⟨F4, l4, ok4, r4⟩ := toD_ok ok3 r3 qd
                exact w F4 v3 H3 (l3.trans l4) ok4 r4
              | exc c fs s4 => simp only [qd] at w; exact w.elim
              | bad => simp only [qd] at w; exact w.elim
            | exc c fs s3 =>
              simp only [q] at w
              intro F3 H3 dx l3 ok3 x3
              cases hz : hansw sub an c fs with
              | none => simp only [hz] at w; exact w.elim
              | some z =>
                simp only [hz] at w
                exact k2 _ c fs s3 F3 σ _ H3 dx X.K _ z hK hsub ok3 x3 (start_len hN0) hz fun F4 H4 v4 l4 ok4 r4 => w F4 v4 H4 (l3.trans l4) ok4 r4
            | bad => simp only [q] at w; exact w.elim
        refine wpAny_call (codeAny_mono rc fun rr s2 hq => ?_)
        cases rr with
        | error e => exact (show False from hq).elim
        | ok fl =>
          cases fl with
          | ret u => exact I1.after hq
          | next => exact False.elim hq
          | brk => exact False.elim hq
          | cont => exact False.elim hq
end
end Rf

set_option Elab.async false
set_option linter.all false
set_option maxRecDepth 100000
set_option maxHeartbeats 2000000
/-! Rf, part z1: == and != of instances with an own __eq__; truth by an own __bool__. -/
namespace Rf
open PySem PySem.Spec PyProof.Rows L2

section
open PySem.W
variable {prog : Program} {w : World} {A : Around} {E : Value → Shared → Prop} {s : Shared} {K : Frag} {x C f : Addr} {ox : Obj} {od : Option Obj} {b tb : Value}
theorem one_bind (self : Value) : bindSpecial (.builtin "object.__ne__") self = pure (.builtin "object.__ne__", [self]) :=
  (Slot.of (T := "object") (name := "__ne__") (owner := "object") (n := "__ne__") (by rw [typeLookup_type, builtinLookup_eq_fast]; kernel_rfl) (by decide +kernel) (by decide +kernel) (by decide +kernel)
    (.inl (by decide +kernel)) (by rw [isSubtype_type]; kernel_rfl)).bind self
theorem one_plain : plainId "object.__ne__" = true := by decide +kernel
/-- object.__ne__ by an own __eq__ that says yes or no -/
theorem one_run {Q : Fin → Shared → Prop} (hu : A.units < cLine) (X : K.In s.heap) (I : InstAt s.heap x ox C od) (hs : findIn K (.ref C) "__eq__" = some (some (.ref f))) (hf : isFn K (.ref f) = true)
    (h : wpAny (model prog w) A (call (.ref f) [.ref x, b]) (fun v s' => ∃ k, v = .bool k ∧ Q (.done (.ret (.bool (!k)))) s') E s) : wpAny (model prog w) A (Builtin.«object.__ne__» ⟨[.ref x, b], []⟩) Q E s := by
  unfold Builtin.«object.__ne__»
  repeat (first
    | with_reducible refine wpAny_cRoomFor hu ?_
    | (refine wpAny_bind (m := callSpecialIfBound? (.ref x) (Str.ofString "__eq__") [b]) (ifBound_K X I hs hf (wpAny_mono h (fun r s' hr => by
          obtain ⟨k, rfl, hq⟩ := hr
          repeat (first | exact hq | exact wpAny_pure hq | exact wpAny_truthy_bool hq | (refine wpAny_bind (m := truthy (.bool _)) (wpAny_truthy_bool ?_)) | wp_step)) fun _ _ e => e)))
    | wp_step)
theorem ne_K {Q : Value → Shared → Prop} (hu : A.units + 1 < cLine) (X : K.In s.heap) (I : InstAt s.heap x ox C od) (hb : Looks (model prog w) s.heap (typeOf b) tb) (hn : notFirst K C tb = true) (ho : mroIn K C (.type "object") = some true)
    (hn2 : findIn K (.ref C) "__ne__" = some (some (.builtin "object.__ne__"))) (hs : findIn K (.ref C) "__eq__" = some (some (.ref f))) (hf : isFn K (.ref f) = true)
    (h : wpAny (model prog w) A.in1 (call (.ref f) [.ref x, b]) (fun v s' => ∃ k, v = .bool k ∧ Q (.bool (!k)) s') E s) : wpAny (model prog w) A (richCompare .NotEq (.ref x) b) Q E s := by
  have t2 : Looks (model prog w) s.heap (isInstance (.ref x) (.type "object")) true := I.type.andThen (looks_mroIn X ho)
  have one : wpAny (model prog w) A (tryCompare (.ref x) "__ne__" b) (fun r s' => ∃ v, r = some v ∧ Q v s') E s := by
    unfold tryCompare
    refine wpAny_bind ?_
    simp only [callSpecialIfBound?, bindSpecialIfBound?]
    refine wpAny_holding (wpAny_bind (wpAny_bind (wpAny_bind (I.type.here ((looks_findIn X hn2).here ?_)))))
    refine wpAny_bind (wpAny_askSetting (wpAny_ite ?_))
    have fin : wpAny (model prog w) A (call (.builtin "object.__ne__") ([.ref x] ++ [b]) >>= fun v => pure (some v)) (fun r s' => wpAny (model prog w) A (match r with | some .notImplemented | none => pure none | some v => pure (some v)) (fun r s' => ∃ v, r = some v ∧ Q v s') E s') E s := by
      refine wpAny_bind (wpAny_call (codeAny_call_builtin one_plain F.cmpEntry_ne (check_slot F.cmpKind_ne F.cmpSplit_ne t2 (F.cmpArgs_ne _ _) (one_run (A := A.in1) hu X I hs hf (wpAny_mono h (fun v s' hv => ?_) fun _ _ e => e)))))
      obtain ⟨k, rfl, hq⟩ := hv
      first
        | exact ⟨k, rfl, wpAny_pure (wpAny_pure ⟨_, rfl, hq⟩)⟩
        | exact ⟨k, rfl, wpAny_pure (wpAny_pure (wpAny_pure ⟨_, rfl, hq⟩))⟩
    have L : Looks (model prog w) s.heap (bindSpecial (.builtin "object.__ne__") (.ref x)) (.builtin "object.__ne__", [.ref x]) := Looks.of_pure (one_bind _)
    split
    · exact wpAny_bind (L.here (wpAny_pure (by exact fin)))
    · exact wpAny_tryCatch (wpAny_bind (L.here (wpAny_pure (by exact fin))))
  unfold richCompare
  simp only [oneThing_ref]
  refine wpAny_holding (wpAny_bind (wpAny_cRoomFor (Nat.lt_of_succ_lt hu) ?_))
  refine wpAny_bind (I.type.here (wpAny_bind (hb.here ?_)))
  split
  · rename_i q
    have e : subIn K tb (.ref C) = some false := by
      rcases Bool.or_eq_true_iff.mp hn with e | e
      · rw [beq_iff_eq.mp e] at q; simp at q
      · exact beq_iff_eq.mp e
    refine wpAny_bind ((looks_subIn X e).here ?_)
    simp only [Bool.false_eq_true, if_false]
    refine wpAny_bind (wpAny_mono one (fun r s' z => ?_) fun _ _ e => e)
    obtain ⟨v, rfl, hq⟩ := z
    exact wpAny_pure hq
  · refine wpAny_bind (wpAny_pure ?_)
    simp only [Bool.false_eq_true, if_false]
    refine wpAny_bind (wpAny_mono one (fun r s' z => ?_) fun _ _ e => e)
    obtain ⟨v, rfl, hq⟩ := z
    exact wpAny_pure hq
end
/-! ### the pieces -/
def eqCall (oc : Oc) (neg : Bool) (i : Nat) (d1 d2 : D) : M Hd := fun s => match oc i [d1, d2] s.hs with
  | .ok (.bl r) hs' => .ok (.d (.bl (if neg then !r else r))) { s with hs := hs' }
  | _ => .bad
/-- == (neg: !=): instances by their own __eq__, all else by content -/
def mCmpI (t : Gd) (oc : Oc) (neg : Bool) (a b : M Hd) : M Hd := bnd a fun h => bnd b fun k => bnd (look h) fun x => bnd (look k) fun y => (match x with
  | .ins c _ => (match t.meth c "__eq__" with
    | some i => (match y with
      | .ins c' _ => if t.nf c c' = true ∧ t.fn i = 2 ∧ (neg = true → t.hne c = true) then bnd (toD false h) fun d1 => bnd (toD false k) fun d2 => eqCall oc neg i d1 d2 else bad
      | _ => bad)
    | none => bad)
  | x => bnd (opt (if neg then nevD x y else eqvD x y)) fun z => ret (.d z))
section
variable {g : G} {X : Cx} {E : WX} {oc : Oc} {k : Nat}
def rCmpI (g : G) (oc : Oc) (neg : Bool) : R2 := fun x y H Q => ∃ a dx fs b dy gs i c c', x = .ref a ∧ y = .ref b ∧ H a = some (.ins (g.ca.cl c) dx fs) ∧ H b = some (.ins (g.ca.cl c') dy gs) ∧ g.meth c "__eq__" = some i ∧ g.nf c c' = true ∧ (neg = true → g.hne c = true) ∧
  spF g (g.fn i) (oc i) [x, y] H (fun v H' => ∃ r, v = .bl r ∧ Q (.bl (if neg then !r else r)) H') (fun _ _ _ => False)
theorem op_cmpI (neg : Bool) (hK : X.K = g.K) (C : ClsF g) (hF : ∀ c i, g.meth c "__eq__" = some i → HasF g X oc k i) (hr : Room (k + 1) X.A) : OpR X (compareOp (if neg then .NotEq else .Eq)) (rCmpI g oc neg) := by
  intro pins s σ H x y v u Q I rx ry h
  obtain ⟨a, dx, fs, b, dy, gs, i, c, c', rfl, rfl, ha, hb, hi, hnf, hne, hsp⟩ := h
  cases rx
  cases ry
  obtain ⟨mA, J, _⟩ := ins_get I.hok ha
  obtain ⟨mB, J', _⟩ := ins_get I.hok hb
  obtain ⟨od, J, _⟩ := J.look
  obtain ⟨od', J', _⟩ := J'.look
  obtain ⟨m, hFr⟩ := I.fr
  obtain ⟨cl, mt⟩ := C.meth c _ i hi
  have nf := C.nf c c' hnf
  obtain ⟨j, fd, ps, hj, F, _, hbd⟩ := hF c i hi
  rw [← hK] at cl mt nf
  have run : ∀ (A : Around), Room k A → A.frames = X.A.frames → wpAny (model X.prog X.w) A (call (.ref (g.fa i)) [.ref a, .ref b]) (fun w s' => ∃ r, w = .bool r ∧ EP X pins σ Q (.bool (if neg then !r else r)) s') X.xe s := fun A hrA hfr => by
    have e0 : Env0 X.prog X.w X.K X.mg X.base A X.stack s H := by
      have e := I.env0
      exact ⟨by rw [hfr]; exact e.frames, e.mod, e.bs, e.bsz, e.funs, e.frf, e.hok, e.bare⟩
    have hl := F.len _ _ _ _ hsp
    have r2 : Vals [V.ref a, V.ref b] [Value.ref a, Value.ref b] := .cons rfl (.cons rfl .nil)
    refine wpAny_call (codeAny_mono (F.run A X.stack s H ⟨[.ref a, .ref b], []⟩ [.ref a, .ref b] [.ref a, .ref b] _ _ (hrA.mono hj) e0 (by
      have := hbd s [.ref a, .ref b] I.kIn (by simpa using hl)
      simpa using this) r2 hsp) fun r s' hq => ?_)
    cases r with
    | error e => exact (passX0 (X := X) pins σ H s e s' I hq)
    | ok fl =>
      cases fl with
      | ret w =>
        obtain ⟨z, H', I', rz, r, ez, q⟩ := I.after hq
        subst ez
        cases rz
        exact ⟨r, rfl, .bl _, H', I', rfl, q⟩
      | next => exact False.elim hq
      | brk => exact False.elim hq
      | cont => exact False.elim hq
  cases neg with
  | false =>
    show wpAny (model X.prog X.w) X.A (richCompare .Eq (.ref a) (.ref b)) _ _ s
    refine PySem.W.cmp_K (op := .Eq) (tb := .ref (g.ca.cl c')) (by have := hr.un; omega) hFr I.ok.mod.kin J J'.type nf mt.at_ mt.fn (wpAny_mono (run X.A (hr.mono (Nat.le_succ _)) rfl) (fun w s' hw => ?_) fun _ _ e => e)
    obtain ⟨r, rfl, q⟩ := hw
    exact q
  | true =>
    obtain ⟨n1, n2⟩ := C.ne c (hne rfl)
    rw [← hK] at n1 n2
    show wpAny (model X.prog X.w) X.A (richCompare .NotEq (.ref a) (.ref b)) _ _ s
    exact ne_K (tb := .ref (g.ca.cl c')) (by have := hr.un; omega) I.kIn J J'.type nf n2 n1 mt.at_ mt.fn (run X.A.in1 hr.in1 rfl)
variable {a b : Expr} {ma mb : M Hd} {pos : PySem.Pos}
def rCmpD (g : G) (oc : Oc) (neg : Bool) (r0 : R2) : R2 := fun x y H Q => r0 x y H Q ∨ rCmpI g oc neg x y H Q
theorem cmpI_go {neg : Bool} {r0 : R2} {σ : L2.St} {H : Hp} {Q : VK} (h0 : OpOk g (if neg then nevD else eqvD) r0) (h : RE g E (mCmpI g.toGd oc neg ma mb) σ H Q) : tOp (rCmpD g oc neg r0) (RE g E ma) (RE g E mb) σ H Q := by
  obtain ⟨F, st, h⟩ := h
  refine ⟨F, st, (RFw.bind (R := RH g) h).mono fun v H1 ⟨F1, h1, st1, l1, r1, h⟩ => ?_⟩
  refine ⟨F1, st1, (RFw.bind (R := RH g) h).mono fun u H2 ⟨F2, h2, st2, l2, r2, h⟩ => ?_⟩
  obtain ⟨x, rx, h⟩ := h.look_bind (RepH.lk l2 r1)
  obtain ⟨y, ry, h⟩ := h.look_bind r2
  have flat : ∀ {z : D} {k : D → M Hd}, (if neg then nevD x y else eqvD x y) = some z → RFw g (RH g) E (ret (.d z)) F2 st2 σ H2 Q → rCmpD g oc neg r0 v u H2 Q := fun {z k} ez h => by
    refine .inl (h0 h.1 rx ry ?_ fun w H' l o q => h.ret_end l o q)
    cases neg <;> exact ez
  cases x with
  | ins c fs =>
    dsimp only at h
    cases em : g.meth c "__eq__" with
    | none => simp only [em] at h; exact h.2.elim
    | some i =>
      simp only [em] at h
      cases y with
      | ins c' gs =>
        dsimp only at h
        split at h
        · rename_i hc
          obtain ⟨a, dx, vs, ea, ha, _⟩ := rx.ins
          obtain ⟨b, dy, us, eb, hb, _⟩ := ry.ins
          obtain ⟨F3, st3, d1, l3, rd1, h⟩ := h.toD_bind (RepH.lk l2 r1)
          obtain ⟨F4, st4, d2, l4, rd2, h⟩ := h.toD_bind (RepH.lk l3 r2)
          refine .inr ⟨a, dx, vs, b, dy, us, i, c, c', ea, eb, ha, hb, em, hc.1, hc.2.2, ?_⟩
          obtain ⟨ok, h⟩ := h
          refine ⟨hc.2.1.symm, F4.Bc, F4.ρ, st4.hs, [d1, d2], ok.boxOk, ?_, ?_⟩
          · rw [← F4.W_eq]
            exact .cons (Rep.lk l4 rd1) (.cons rd2 .nil)
          · unfold eqCall at h
            cases q : oc i [d1, d2] st4.hs with
            | ok d hs' =>
              simp only [q] at h
              cases d <;> first | exact h.elim | skip
              rename_i r
              intro ρ' w H' ck b' rw'
              obtain ⟨l, ok'⟩ := ok.back ck b'
              cases rw' with
              | bl _ => exact ⟨r, rfl, h _ _ H' l ok' (.bl _)⟩
            | exc c fs hs' => simp only [q] at h; exact h.elim
            | bad => simp only [q] at h; exact h.elim
        · exact h.2.elim
      | _ => exact h.2.elim
  | _ =>
    obtain ⟨z, ez, h⟩ := h.opt_bind
    exact flat (k := fun _ => bad) ez h
theorem rf_eqI (hK : X.K = g.K) (C : ClsF g) (hF : ∀ c i, g.meth c "__eq__" = some i → HasF g X oc k i) (hr : Room (k + 1) X.A) {r0 : R2} (hop : OpR X (compareOp .Eq) r0) (h0 : OpOk g eqvD r0) (ha : PE X a (RE g E ma)) (hb : PE X b (RE g E mb)) (hm : behindInMarks .Eq b = false) :
    PE X (.Compare a [.Eq] [b] pos) (RE g E (mCmpI g.toGd oc false ma mb)) := (pe_cmpR (hop.or (op_cmpI false hK C hF hr)) ha hb hm).weak fun _ _ _ h => cmpI_go (neg := false) h0 h
theorem rf_neI (hK : X.K = g.K) (C : ClsF g) (hF : ∀ c i, g.meth c "__eq__" = some i → HasF g X oc k i) (hr : Room (k + 1) X.A) {r0 : R2} (hop : OpR X (compareOp .NotEq) r0) (h0 : OpOk g nevD r0) (ha : PE X a (RE g E ma)) (hb : PE X b (RE g E mb)) (hm : behindInMarks .NotEq b = false) :
    PE X (.Compare a [.NotEq] [b] pos) (RE g E (mCmpI g.toGd oc true ma mb)) := (pe_cmpR (hop.or (op_cmpI true hK C hF hr)) ha hb hm).weak fun _ _ _ h => cmpI_go (neg := true) h0 h
end
end Rf

set_option Elab.async false
set_option linter.all false
set_option maxRecDepth 100000
set_option maxHeartbeats 2000000
/-! Rf, part z2: truth of instances, bool(x). -/
namespace Rf
open PySem PySem.Spec PyProof.Rows L2

section
variable {prog : Program} {w : World} {A : Around} {E : Value → Shared → Prop} {s : Shared}
/-- bool(x), x's truth by whatever means -/
theorem call_bool_any {x : Value} {Q : Value → Shared → Prop} (h : wpAny (model prog w) A.in1.in1 (truthy x) (fun k s' => Q (.bool k) s') E s) : wpAny (model prog w) A (call (.type "bool") [x]) Q E s := by
  have ft := F.called_bool
  obtain ⟨c, tl, hmro⟩ := ft.mro
  have hmade := ft.made
  have hsub := ft.sub
  refine wpAny_call (codeAny_of_tree ?_)
  show wpAny _ _ (callAny (.type "bool") _) _ _ _
  refine wpAny_pure ⟨Code.quiet_builtin _ (by decide +kernel), codeAny_builtin F.entry_type_call ?_⟩
  rw [Around.under_plain (weight_type_call_type "bool" [x] []) (units_type_call_type "bool" [x] [])]
  have h1 := ft.notType
  have h2 := ft.canCreate
  have hct := F.typeCall_bool_1 x
  repeat (any_goals (first | assumption | wp_step))
  have run : wpAny (model prog w) A.in1.in1 (Builtin.«bool.__new__» ⟨[.type "bool", x], []⟩) (fun fin s' => match fin with | .done f => wants (fun obj s₁ => s₁.TypeIs obj "bool" ∧ Q obj s₁) E (.ok f) s' | .again c' => c'.quiet = true ∧ codeAny (model prog w) A.in1 c' (wants (fun obj s₁ => s₁.TypeIs obj "bool" ∧ Q obj s₁) E) s') (fun e s' => wants (fun obj s₁ => s₁.TypeIs obj "bool" ∧ Q obj s₁) E (.error e) s') s := by
    have f1 := F.conv_sub_bool
    have h' := wpAny_mono h (fun k s' q => (show s'.TypeIs (.bool k) "bool" ∧ Q (.bool k) s' from ⟨rfl, q⟩)) fun e s' z => z
    unfold Builtin.«bool.__new__»
    repeat (first
      | (refine wpAny_bind (m := truthy x) (wpAny_mono h' (fun k s' q => ?_) fun e s' z => z))
      | wp_step)
    first
      | exact wpAny_pure q
      | exact q
  refine codeAny_mono (codeAny_call_builtin ft.plain F.entry_bool_new (wpAny_of_eq (F.newCall_bool_1 x) run)) fun r s₁ hr => ?_
  cases r with
  | error e => exact hr
  | ok fl =>
    cases fl with
    | ret obj =>
      obtain ⟨hT, hq⟩ := hr
      have hli := ft.init.lookup
      have hbi := ft.init.bind obj
      repeat (any_goals (first | assumption | wp_step))
      refine codeAny_mono (codeAny_call_builtin ft.init.plain F.entry_object_init (ft.init.check _ _ _ _ _ _ _ _ hT (F.args_object_init_2 obj x) ((object_init_meets ft.init.lookup ft.made F.newNe_bool) prog w A.in1 (wants (fun r s₂ => r = .none ∧ Q obj s₂) E) s₁ ⟨hT, rfl, hq⟩))) fun r₂ s₂ hr₂ => ?_
      cases r₂ with
      | error e => exact hr₂
      | ok fl₂ =>
        cases fl₂ with
        | ret r =>
          obtain ⟨rfl, hq⟩ := hr₂
          repeat (any_goals (first | assumption | wp_step))
        | _ => exact hr₂.elim
    | _ => exact hr.elim
end
/-! ### the pieces -/
def boolCall (oc : Oc) (i : Nat) (d : D) : M Bool := fun s => match oc i [d] s.hs with
  | .ok (.bl r) hs' => .ok r { s with hs := hs' }
  | _ => .bad
/-- truth, instances' by their own __bool__ -/
def truI (t : Gd) (oc : Oc) (h : Hd) : M Bool := bnd (look h) fun x => (match x with
  | .ins c _ => (match t.meth c "__bool__" with
    | some i => if t.fn i = 1 then bnd (toD false h) fun d => bnd (boolCall oc i d) ret else bad
    | none => bad)
  | x => bnd (opt (truD x)) ret)
def mTruI (t : Gd) (oc : Oc) (m : M Hd) : M Bool := bnd m (truI t oc)
/-- bool(x) -/
def mBoolI (t : Gd) (oc : Oc) (m : M Hd) : M Hd := bnd m fun h => bnd (look h) fun x => (match x with
  | .ins c _ => (match t.meth c "__bool__" with
    | some i => if t.fn i = 1 then bnd (toD false h) fun d => bnd (boolCall oc i d) fun b => ret (.d (.bl b)) else bad
    | none => bad)
  | x => bnd (opt (boolO x)) fun z => ret (.d z))
section
variable {g : G} {X : Cx} {E : WX} {oc : Oc} {k : Nat}
def rTruI (g : G) (oc : Oc) : V → Hp → (Bool → Hp → Prop) → Prop := fun x H Q => ∃ a dx fs i c, x = .ref a ∧ H a = some (.ins (g.ca.cl c) dx fs) ∧ g.meth c "__bool__" = some i ∧ spF g (g.fn i) (oc i) [x] H (fun v H' => ∃ r, v = .bl r ∧ Q r H') (fun _ _ _ => False)
theorem tru_run (hK : X.K = g.K) (C : ClsF g) (hF : ∀ c i, g.meth c "__bool__" = some i → HasF g X oc k i) {A : Around} (hrA : Room k A) (hfr : A.frames = X.A.frames) {pins : List (Addr × Obj)} {s : Shared} {σ : L2.St} {H : Hp} {x : V} {v : Value} {Q : Bool → Hp → Prop} (I : Inv X pins σ H s) (rx : RelV x v) (h : rTruI g oc x H Q) :
    wpAny (model X.prog X.w) A (truthy v) (TP X pins σ Q) X.xe s := by
  obtain ⟨a, dx, fs, i, c, rfl, ha, hi, hsp⟩ := h
  cases rx
  obtain ⟨mA, J, _⟩ := ins_get I.hok ha
  obtain ⟨od, J, _⟩ := J.look
  obtain ⟨m, hFr⟩ := I.fr
  obtain ⟨cl, mt⟩ := C.meth c _ i hi
  obtain ⟨j, fd, ps, hj, F, _, hbd⟩ := hF c i hi
  rw [← hK] at cl mt
  have e0 : Env0 X.prog X.w X.K X.mg X.base A X.stack s H := by
    have e := I.env0
    exact ⟨by rw [hfr]; exact e.frames, e.mod, e.bs, e.bsz, e.funs, e.frf, e.hok, e.bare⟩
  have hl := F.len _ _ _ _ hsp
  refine PySem.W.truthy_K hFr I.ok.mod.kin J mt.at_ mt.fn (wpAny_call (codeAny_mono (F.run A X.stack s H ⟨[.ref a], []⟩ [.ref a] [.ref a] _ _ (hrA.mono hj) e0 (by
    have := hbd s [.ref a] I.kIn (by simpa using hl)
    simpa using this) (.cons rfl .nil) hsp) fun r s' hq => ?_))
  cases r with
  | error e => exact (passX0 (X := X) pins σ H s e s' I hq)
  | ok fl =>
    cases fl with
    | ret w =>
      obtain ⟨z, H', I', rz, r, ez, q⟩ := I.after hq
      subst ez
      cases rz
      exact ⟨H', I', q⟩
    | next => exact False.elim hq
    | brk => exact False.elim hq
    | cont => exact False.elim hq
theorem boolCall_go {α' β' : Type} {R' : Rl α' β'} {F : Fm} {st : Stt} {σ : L2.St} {H : Hp} {h : Hd} {v : V} {Q : β' → Hp → Prop} {i c n : Nat} {fs : List (Str × D)} {kk : Bool → M α'} (hn : n = 1) (w : RFw g R' E (bnd (toD false h) fun d => bnd (boolCall oc i d) kk) F st σ H Q) (r : RepH g.K g.ca F σ H h v) :
    spF g n (oc i) [v] H (fun u H' => ∃ b, u = .bl b ∧ ∃ F' st', RFw g R' E (kk b) F' st' σ H' Q) (fun _ _ _ => False) := by
  obtain ⟨F3, st3, d1, l3, rd1, w⟩ := w.toD_bind r
  obtain ⟨ok, w⟩ := w
  refine ⟨hn.symm, F3.Bc, F3.ρ, st3.hs, [d1], ok.boxOk, ?_, ?_⟩
  · rw [← F3.W_eq]
    exact .cons rd1 .nil
  · unfold bnd boolCall at w
    cases q : oc i [d1] st3.hs with
    | ok d hs' =>
      simp only [q] at w
      cases d <;> first | exact w.elim | skip
      rename_i b
      intro ρ' u H' ck b' ru
      obtain ⟨l, ok'⟩ := ok.back ck b'
      cases ru with
      | bl _ => exact ⟨b, rfl, _, _, ok', Post.lk l w⟩
    | exc c fs hs' => simp only [q] at w; exact w.elim
    | bad => simp only [q] at w; exact w.elim
theorem truI_go {F : Fm} {st : Stt} {σ : L2.St} {H : Hp} {h : Hd} {v : V} {Q : Bool → Hp → Prop} (w : RFw g RB E (truI g.toGd oc h) F st σ H Q) (r : RepH g.K g.ca F σ H h v) : (∃ b, TruV g.K v H b ∧ Q b H) ∨ rTruI g oc v H Q := by
  unfold truI at w
  obtain ⟨x, rx, w⟩ := w.look_bind r
  cases x with
  | ins c fs =>
    dsimp only at w
    cases em : g.meth c "__bool__" with
    | none => simp only [em] at w; exact w.2.elim
    | some i =>
      simp only [em] at w
      split at w
      · rename_i hn
        obtain ⟨a, dx, vs, ea, ha, _⟩ := rx.ins
        refine .inr ⟨a, dx, vs, i, c, ea, ha, em, ?_⟩
        obtain ⟨e1, B, ρ, hs, ds, b1, b2, b3⟩ := boolCall_go (c := c) (fs := fs) hn w r
        refine ⟨e1, B, ρ, hs, ds, b1, b2, ?_⟩
        cases q : oc i ds hs with
        | ok d hs' =>
          rw [q] at b3
          intro ρ' u H' ck b' ru
          obtain ⟨b, eb, F', st', w'⟩ := b3 ρ' u H' ck b' ru
          exact ⟨b, eb, w'.here rfl⟩
        | exc c fs hs' => rw [q] at b3; exact b3
        | bad => rw [q] at b3; exact b3
      · exact w.2.elim
  | _ =>
    obtain ⟨b, e, w⟩ := w.opt_bind
    exact .inl ⟨b, tru_of rx e, w.here rfl⟩
variable {a : Expr} {ma : M Hd} {p pos : PySem.Pos}
theorem rf_truthI (hK : X.K = g.K) (C : ClsF g) (hF : ∀ c i, g.meth c "__bool__" = some i → HasF g X oc k i) (hr : Room k X.A) (ha : PE X a (RE g E ma)) (he : ∀ whole, isTrue a X.env whole = (do let v ← whole; standAt a.pos; holding [v] (truthy v))) : PT X a (RT g E (mTruI g.toGd oc ma)) := by
  refine ⟨fun pins s σ H Q I ⟨F, st, w⟩ => ?_⟩
  refine isTrue_plain (thn (ha.run pins s σ H (fun x H' => (∃ b, TruV g.K x H' b ∧ Q b H') ∨ rTruI g oc x H' Q) I ⟨F, st, (RFw.bind (R := RH g) w).mono fun v H1 ⟨F1, h1, st1, l1, r1, w⟩ => truI_go w r1⟩) fun v s1 ⟨x, H1, I1, r1, q1⟩ => ?_) (he _)
  rcases q1 with q1 | q1
  · rw [← hK] at q1
    exact tru_ok pins s1 σ H1 x v Q I1 r1 q1
  · exact tru_run hK C hF hr rfl I1 r1 q1
theorem cr_boolI (hK : X.K = g.K) (C : ClsF g) (hF : ∀ c i, g.meth c "__bool__" = some i → HasF g X oc k i) (hr : Room (k + 2) X.A) : CallR X (.type "bool") (fun xs H Q => ∃ x, xs = [x] ∧ rTruI g oc x H fun b H' => Q (.bl b) H') := by
  intro pins s σ H xs us Q I r h
  obtain ⟨x, rfl, q⟩ := h
  obtain ⟨u, rfl, r1⟩ := vals1 r
  refine call_bool_any (wpAny_mono (tru_run hK C hF (A := X.A.in1.in1) hr.in1.in1 rfl I r1 q) (fun b s' ⟨H', I', q⟩ => ⟨.bl b, H', I', rfl, q⟩) fun _ _ e => e)
theorem rf_boolI (hK : X.K = g.K) (C : ClsF g) (hF : ∀ c i, g.meth c "__bool__" = some i → HasF g X oc k i) (hr : Room (k + 2) X.A) (hg : Gl X "bool") (hm : X.mg "bool" = none) (ha : PE X a (RE g E ma))
    (he : starEach [a] X.env = (false, eval a X.env) :: starEach [] X.env) (hpl : (backTo pos (starEach [] X.env)).any (·.1) = false) : PE X (.Call (.Name "bool" p) [a] [] pos) (RE g E (mBoolI g.toGd oc ma)) :=
  (pe_callTy (call_bool1.or (cr_boolI hK C hF hr)) hg hm (by rfl) (pa_cons ha pa_nil he) (by decide) (by decide) he hpl).weak fun σ H Q ⟨F, st, w⟩ =>
  ⟨F, st, (RFw.bind (R := RH g) w).mono fun v H1 ⟨F1, h1, st1, l1, r1, w⟩ => by
    obtain ⟨x, rx, w⟩ := w.look_bind r1
    cases x with
    | ins c fs =>
      dsimp only at w
      cases em : g.meth c "__bool__" with
      | none => simp only [em] at w; exact w.2.elim
      | some i =>
        simp only [em] at w
        split at w
        · rename_i hn
          obtain ⟨a, dx, vs, ea, ha, _⟩ := rx.ins
          refine .inr ⟨v, rfl, a, dx, vs, i, c, ea, ha, em, ?_⟩
          obtain ⟨e1, B, ρ, hs, ds, b1, b2, b3⟩ := boolCall_go (c := c) (fs := fs) hn w r1
          refine ⟨e1, B, ρ, hs, ds, b1, b2, ?_⟩
          cases q : oc i ds hs with
          | ok d hs' =>
            rw [q] at b3
            intro ρ' u H' ck b' ru
            obtain ⟨b, eb, F', st', w'⟩ := b3 ρ' u H' ck b' ru
            exact ⟨b, eb, w'.here (.bl b)⟩
          | exc c fs hs' => rw [q] at b3; exact b3
          | bad => rw [q] at b3; exact b3
        · exact w.2.elim
    | _ =>
      obtain ⟨z, ez, w⟩ := w.opt_bind
      refine .inl (ok_bool w.1 rx ez fun u H' l ok q => w.ret_end l ok q)⟩
end
end Rf

set_option Elab.async false
set_option linter.all false
set_option maxRecDepth 100000
set_option maxHeartbeats 2000000
/-! Rf, part z3: stores of several names. -/
namespace Rf
open PySem PySem.Spec PyProof.Rows L2

/-- an element on the right: a value, a fresh thing -/
inductive Pe where
  | v (m : M Hd) | f (n : M Nat)
inductive R1 where
  | d (x : D) | t (j : Nat)
def mEl : Pe → M R1
  | .v m => bnd m fun h => bnd (toD false h) fun d => ret (.d d)
  | .f n => bnd n fun j => ret (.t j)
def mEls : List Pe → M (List R1)
  | [] => ret []
  | e :: r => bnd (mEl e) fun x => bnd (mEls r) fun xs => ret (x :: xs)
/-- into slot i -/
def st1 (i : Nat) (r : R1) (s : Stt) : Option Stt := match r with
  | .d x => some (setS i x s)
  | .t j => (match s.tm[j]? with
    | some o => if 0 < i then some (setOwn i o s) else none
    | none => none)
def stAll : List Nat → List R1 → Stt → Option Stt
  | [], [], s => some s
  | i :: is, r :: rs, s => (st1 i r s).bind (stAll is rs)
  | _, _, _ => none
/-- the temporaries are named once -/
def once : List R1 → Bool
  | [] => true
  | .t j :: r => r.all (fun x => match x with | .t k => decide (k ≠ j) | _ => true) && once r
  | _ :: r => once r
/-- a, b, .. = e, f, .. -/
def sPar (is : List Nat) (es : List Pe) : MS := sM (mEls es) fun rs s => if rs.length ≤ 1000 ∧ once rs = true then (match stAll is rs s with
  | some s' => .nx (clr s')
  | none => .bad) else .bad
/-- a, b = e -/
def sUnp (t : Tg) (m : M Hd) : MS := sM m fun h => sM (toD false h) fun d s => match t d s with
  | some s' => .nx s'
  | none => .bad
section
variable (g : G)
def R1r : Rl R1 V := fun F _ H r v => match r with
  | .d x => Rep g.K g.ca F.ρ (hide F.W H) x v
  | .t j => ∃ a, v = .ref a ∧ F.tm j = some a
def R1s : Rl (List R1) (List V) := fun F σ H rs vs => Paired (fun v r => R1r g F σ H r v) vs rs
def REl (E : WX) (e : Pe) : TE := RF g (R1r g) E (mEl e)
def REls (E : WX) (es : List Pe) : TA := RF g (R1s g) E (mEls es)
end
section
variable {g : G} {X : Cx} {E : WX} {F F1 : Fm} {st : Stt} {σ : L2.St} {H H1 : Hp} {e : Expr} {es : List Expr} {m : M Hd} {n : M Nat} {pe : Pe} {pes : List Pe} {pos : PySem.Pos}
theorem R1r.lk {r : R1} {v : V} (l : Lk F H F1 H1) (q : R1r g F σ H r v) : R1r g F1 σ H1 r v := by
  cases r with
  | d x => exact Rep.lk (K := g.K) (ca := g.ca) l q
  | t j => obtain ⟨a, e1, e2⟩ := q; exact ⟨a, e1, l.tmk j a e2⟩
theorem R1s.lk (l : Lk F H F1 H1) : ∀ {rs : List R1} {vs : List V}, R1s g F σ H rs vs → R1s g F1 σ H1 rs vs
  | _, _, .nil => .nil
  | _, _, .cons h t => .cons (R1r.lk l h) (R1s.lk l t)
theorem rel_v (h : PE X e (RE g E m)) : PE X e (REl g E (.v m)) := h.weak fun σ H Q ⟨F, st, w⟩ => ⟨F, st, (RFw.bind (R := RH g) w).mono fun v H1 ⟨F1, h1, st1, l1, r1, w⟩ => by
  obtain ⟨F2, st2, d, l2, rd, w⟩ := w.toD_bind r1
  exact w.here rd⟩
theorem rel_f (h : PE X e (RN g E n)) : PE X e (REl g E (.f n)) := h.weak fun σ H Q ⟨F, st, w⟩ => ⟨F, st, (RFw.bind (R := RNr) w).mono fun v H1 ⟨F1, j, st1, l1, r1, w⟩ => w.here r1⟩
theorem rels_nil : PA X [] (REls g E []) := pa_nil.weak fun σ H Q ⟨F, st, w⟩ => w.here .nil
theorem rels_cons (h : PE X e (REl g E pe)) (hr : PA X es (REls g E pes)) (hs : starEach (e :: es) X.env = (false, eval e X.env) :: starEach es X.env) : PA X (e :: es) (REls g E (pe :: pes)) :=
  (pa_cons h hr hs).weak fun σ H Q ⟨F, st, w⟩ => ⟨F, st, (RFw.bind (R := R1r g) w).mono fun v H1 ⟨F1, x, st1, l1, r1, w⟩ =>
    ⟨F1, st1, (RFw.bind (R := R1s g) w).mono fun vs H2 ⟨F2, xs, st2, l2, r2, w⟩ => w.here (.cons (R1r.lk l2 r1) r2)⟩⟩
/-- the slots written one after another -/
def setAll : List Nat → List V → L2.St → L2.St
  | i :: is, v :: vs, σ => setAll is vs (σ.set i (some v))
  | _, _, σ => σ
theorem FrOk.st1 {i : Nat} {r : R1} {v : V} {s' : Stt} (ok : FrOk g.K g.ca F st σ H) (q : R1r g F σ H r v) (e : Rf.st1 i r st = some s') :
    ∃ F', LkS F H F' H ∧ FrOk g.K g.ca F' s' (σ.set i (some v)) H ∧ s'.tm = st.tm ∧ ∀ k b, F.tm k = some b → r ≠ .t k → F'.tm k = some b := by
  cases r with
  | d x =>
    simp only [Rf.st1, Option.some.injEq] at e
    subst e
    exact ⟨F, LkS.refl, ok.setv i q, rfl, fun k b h _ => h⟩
  | t j =>
    obtain ⟨a, ev, ha⟩ := q
    subst ev
    simp only [Rf.st1] at e
    split at e
    · rename_i o eo
      split at e
      · rename_i i0
        cases e
        obtain ⟨F'', l, ok', k2⟩ := ok.popO i i0 ha eo
        exact ⟨F'', l, ok', rfl, fun k b h n => k2 k b (fun z => n (by rw [z])) h⟩
      · cases e
    · cases e
theorem FrOk.stAll : ∀ {is : List Nat} {rs : List R1} {vs : List V} {F : Fm} {st s' : Stt} {σ : L2.St}, once rs = true → FrOk g.K g.ca F st σ H → R1s g F σ H rs vs → Rf.stAll is rs st = some s' → ∃ F', LkS F H F' H ∧ FrOk g.K g.ca F' s' (setAll is vs σ) H
  | [], [], [], F, st, s', σ, _, ok, _, e => by
    cases e
    exact ⟨F, LkS.refl, ok⟩
  | i :: is, r :: rs, v :: vs, F, st, s', σ, on, ok, .cons h t, e => by
    have e : (Rf.st1 i r st).bind (Rf.stAll is rs) = some s' := e
    obtain ⟨s1, e1, e2⟩ := Option.bind_eq_some_iff.mp e
    obtain ⟨F1, l1, ok1, et, k1⟩ := ok.st1 h e1
    have on1 : once rs = true := by
      cases r with
      | d x => exact on
      | t j => exact ((Bool.and_eq_true _ _).mp on).2
    have t1 : R1s g F1 (σ.set i (some v)) H rs vs := by
      have key : ∀ {rs' : List R1} {vs' : List V}, (∀ x, x ∈ rs' → ∀ k, x = .t k → r ≠ .t k) → R1s g F σ H rs' vs' → R1s g F1 (σ.set i (some v)) H rs' vs' := by
        intro rs' vs' hk q
        induction q with
        | nil => exact .nil
        | @cons v' x vs' xs' hx tx ih =>
          refine .cons ?_ (ih fun y hy => hk y (List.mem_cons_of_mem _ hy))
          cases x with
          | d y => exact Rep.lkS (K := g.K) (ca := g.ca) l1 hx
          | t k => obtain ⟨a, q1, q2⟩ := hx; exact ⟨a, q1, k1 k a q2 (hk _ List.mem_cons_self k rfl)⟩
      refine key (fun x hx k ex er => ?_) t
      subst ex; subst er
      have := List.all_eq_true.mp ((Bool.and_eq_true _ _).mp on).1 _ hx
      simp at this
    obtain ⟨F2, l2, ok2⟩ := FrOk.stAll on1 ok1 t1 e2
    exact ⟨F2, l1.trans l2, ok2⟩
theorem R1s.length {F : Fm} {σ : L2.St} {H : Hp} : ∀ {rs : List R1} {vs : List V}, R1s g F σ H rs vs → rs.length = vs.length
  | _, _, .nil => rfl
  | _, _, .cons _ t => by rw [List.length_cons, List.length_cons, R1s.length t]
/-- the end of a store of several -/
theorem par_end {is : List Nat} {rs : List R1} {vs : List V} {D0 : Ends} (w : RSw g E (fun s => if rs.length ≤ 1000 ∧ once rs = true then (match Rf.stAll is rs s with
      | some s' => .nx (clr s')
      | none => .bad) else .bad) F st σ H D0) (r : R1s g F σ H rs vs) : vs.length ≤ 1000 ∧ D0.nx (setAll is vs σ) H := by
  obtain ⟨ok, w⟩ := w
  dsimp only at w
  split at w
  · rename_i hc
    cases e : Rf.stAll is rs st with
    | none => simp only [e] at w; exact w.elim
    | some s' =>
      simp only [e] at w
      obtain ⟨F', l, ok'⟩ := FrOk.stAll hc.2 ok r e
      obtain ⟨l2, ok2⟩ := ok'.clr
      exact ⟨by rw [← R1s.length r]; exact hc.1, w _ _ H (l.trans l2) ok2⟩
  · exact w.elim
variable {x y z : Str} {a b c : Expr} {p1 p2 : Pe} {p3 : Pe} {px py pz pt pt2 : PySem.Pos} {kt k2 i j l : Nat}
theorem stAll_len : ∀ {is : List Nat} {rs : List R1} {s s' : Stt}, Rf.stAll is rs s = some s' → is.length = rs.length
  | [], [], _, _, _ => rfl
  | i :: is, r :: rs, s, s', e => by
    have e : (Rf.st1 i r s).bind (Rf.stAll is rs) = some s' := e
    obtain ⟨s1, _, e2⟩ := Option.bind_eq_some_iff.mp e
    rw [List.length_cons, List.length_cons, stAll_len e2]
theorem rs_par2 (hc : X.calm = true) (hN : X.N.Nodup) (hi : X.N[i]? = some x) (hj : X.N[j]? = some y) (hij : i ≠ j) (hx : X.env.scope.names.lookup x = some .local) (hy : X.env.scope.names.lookup y = some .local) (ha : PA X [a, b] (REls g E [p1, p2]))
    (hw : swappedStores [.Tuple [.Name x px, .Name y py] kt pt] (.Tuple [a, b] k2 pt2) X.env = pure (some [x, y])) (hs : swapsWithSole [.Tuple [.Name x px, .Name y py] kt pt] (.Tuple [a, b] k2 pt2) pos.line X.env = pure false) :
    PS X (.Assign [.Tuple [.Name x px, .Name y py] kt pt] (.Tuple [a, b] k2 pt2) pos) (RS g E (sPar [i, j] [p1, p2])) := (ps_par hc hN hi hj hij hx hy ha hw hs).weak fun D0 σ H ⟨F, st, w⟩ =>
  ⟨F, st, (RSw.m_bind (R := R1s g) w).mono fun vs H1 ⟨F1, rs, st1, l1, r1, w⟩ => by
    have w2 := par_end w r1
    have hl := R1s.length r1
    have e2 : ∃ v u, vs = [v, u] := by
      obtain ⟨_, w⟩ := w
      dsimp only at w
      split at w
      · cases e : Rf.stAll [i, j] rs st1 with
        | none => simp only [e] at w; exact w.elim
        | some s' =>
          have := stAll_len e
          rw [hl] at this
          match vs, this with
          | [v, u], _ => exact ⟨v, u, rfl⟩
      · exact w.elim
    obtain ⟨v, u, rfl⟩ := e2
    exact ⟨v, u, rfl, w2.2⟩⟩
theorem rs_par3 (hc : X.calm = true) (hN : X.N.Nodup) (hi : X.N[i]? = some x) (hj : X.N[j]? = some y) (hl : X.N[l]? = some z) (hij : i ≠ j) (hil : i ≠ l) (hjl : j ≠ l) (hx : X.env.scope.names.lookup x = some .local) (hy : X.env.scope.names.lookup y = some .local) (hz : X.env.scope.names.lookup z = some .local) (ha : PA X [a, b, c] (REls g E [p1, p2, p3]))
    (hw : swappedStores [.Tuple [.Name x px, .Name y py, .Name z pz] kt pt] (.Tuple [a, b, c] k2 pt2) X.env = pure (some [x, y, z])) (hs : swapsWithSole [.Tuple [.Name x px, .Name y py, .Name z pz] kt pt] (.Tuple [a, b, c] k2 pt2) pos.line X.env = pure false) :
    PS X (.Assign [.Tuple [.Name x px, .Name y py, .Name z pz] kt pt] (.Tuple [a, b, c] k2 pt2) pos) (RS g E (sPar [i, j, l] [p1, p2, p3])) := (ps_par3 hc hN hi hj hl hij hil hjl hx hy hz ha hw hs).weak fun D0 σ H ⟨F, st, w⟩ =>
  ⟨F, st, (RSw.m_bind (R := R1s g) w).mono fun vs H1 ⟨F1, rs, st1, l1, r1, w⟩ => by
    have w2 := par_end w r1
    have hlen := R1s.length r1
    have e2 : ∃ v u t, vs = [v, u, t] := by
      obtain ⟨_, w⟩ := w
      dsimp only at w
      split at w
      · cases e : Rf.stAll [i, j, l] rs st1 with
        | none => simp only [e] at w; exact w.elim
        | some s' =>
          have := stAll_len e
          rw [hlen] at this
          match vs, this with
          | [v, u, t], _ => exact ⟨v, u, t, rfl⟩
      · exact w.elim
    obtain ⟨v, u, t, rfl⟩ := e2
    exact ⟨v, u, t, rfl, w2.2⟩⟩
/-- stores of several names, by the kit -/
def gAll (is : List Nat) : TGs := fun vs σ H Q => vs.length = is.length ∧ Q (setAll is vs σ) H
theorem gall_nil : PGs X [] (gAll []) := pgs_nil.weak fun vs σ H Q ⟨e, q⟩ => by
  cases vs with
  | nil => exact ⟨rfl, q⟩
  | cons _ _ => cases e
theorem gall_cons {t : Expr} {ts : List Expr} {is : List Nat} (h1 : ∀ {te : TG} {tu : TGs}, PG X t te → PGs X ts tu → PGs X (t :: ts) (gCons te tu)) (ht : PG X t (gName i)) (hu : PGs X ts (gAll is)) : PGs X (t :: ts) (gAll (i :: is)) := (h1 ht hu).weak fun vs σ H Q ⟨e, q⟩ => by
  cases vs with
  | nil => cases e
  | cons v vs => exact ⟨v, vs, rfl, by simpa using e, q⟩
theorem rs_parN {ts : List Expr} {is : List Nat} {n : Nat} (hc : X.calm = true) (ht : PGs X ts (gAll is)) (ha : PA X es (REls g E pes)) (hn : (assignEach ts X.env).length = n) (hln : is.length = n) (hst : (assignEach ts X.env).findIdx? (·.1) = none)
    (hs : swapsWithSole [.Tuple ts kt pt] (.Tuple es k2 pt2) pos.line X.env = pure false) (hw : swappedStores [.Tuple ts kt pt] (.Tuple es k2 pt2) X.env = pure none) (h1 : (assignEach [.Tuple ts kt pt] X.env).map (·.2) = [assign (.Tuple ts kt pt) X.env]) :
    PS X (.Assign [.Tuple ts kt pt] (.Tuple es k2 pt2) pos) (RS g E (sPar is pes)) := (ps_asg (pe_tup ha) (pg_tup hc ht hn hst) hs hw h1).weak fun D0 σ H ⟨F, st, w⟩ =>
  ⟨F, st, (RSw.m_bind (R := R1s g) w).mono fun vs H1 ⟨F1, rs, st1, l1, r1, w⟩ => by
    have hl := R1s.length r1
    have hlen : vs.length = is.length := by
      obtain ⟨_, w⟩ := w
      dsimp only at w
      split at w
      · cases e : Rf.stAll is rs st1 with
        | none => simp only [e] at w; exact w.elim
        | some s' => rw [← hl, stAll_len e]
      · exact w.elim
    have w0 := par_end w r1
    refine ⟨by have := w0.1; rw [sizeLine_eq]; omega, fun p hp => ?_⟩
    have ok2 := w.1.upd (o := .tup vs) hp
    have l2 := w.1.lk_upd (o := .tup vs) hp
    have w2 : ∀ {k : MS}, RSw g E k F1 st1 σ H1 D0 → RSw g E k F1 st1 σ (upd H1 p (.tup vs)) D0 := fun w => ⟨ok2, PostS.lk l2.s w.2⟩
    exact ⟨p, vs, rfl, SqT.of upd_same, by rw [hlen, hln], hlen, (par_end (w2 w) (R1s.lk l2 r1)).2⟩⟩
theorem rs_unp {tg : Expr} {ts : List Nat} {t : Tg} (ha : PE X a (RE g E m)) (hg : PG X tg (RG g ts t)) (hs : swapsWithSole [tg] a pos.line X.env = pure false) (hw : swappedStores [tg] a X.env = pure none) (h1 : (assignEach [tg] X.env).map (·.2) = [assign tg X.env]) :
    PS X (.Assign [tg] a pos) (RS g E (sUnp t m)) := (ps_asg ha hg hs hw h1).weak fun D0 σ H ⟨F, st, w⟩ =>
  ⟨F, st, (RSw.m_bind (R := RH g) w).mono fun v H1 ⟨F1, h1, st1, l1, r1, w⟩ => by
    obtain ⟨F2, st2, d, l2, rd, ok, w⟩ := w.toD r1
    dsimp only at w
    cases e : t d st2 with
    | none => simp only [e] at w; exact w.elim
    | some s' =>
      simp only [e] at w
      exact ⟨F2, st2, d, s', ok, rd, e, fun σ' ok' _ _ => w F2 σ' H1 LkS.refl ok'⟩⟩
end
end Rf

set_option Elab.async false
set_option linter.all false
set_option maxRecDepth 100000
set_option maxHeartbeats 2000000
/-! Rf, part z4: methods of dicts. -/
namespace Rf
open PySem PySem.Spec PyProof.Rows L2

def isDct : D → Bool
  | .dct _ => true
  | _ => false
def dctOf : D → Option (List (D × D))
  | .dct kvs => some kvs
  | _ => none
/-- d.get(k) -/
def mGet1 (mo mk : M Hd) : M Hd := bnd mo fun h => bnd (look h) fun d0 => if isDct d0 = true then bnd mk fun k => bnd (look h) fun d => bnd (look k) fun y => bnd (opt (dctOf d)) fun kvs => if (keyD y).isSome = true then (match getK kvs y with
  | some v => ret (.d v)
  | none => ret (.d .non)) else bad else bad
/-- d.get(k, x) -/
def mGet2 (mo mk mx : M Hd) : M Hd := bnd mo fun h => bnd (look h) fun d0 => if isDct d0 = true then bnd mk fun k => bnd mx fun x => bnd (look h) fun d => bnd (look k) fun y => bnd (opt (dctOf d)) fun kvs => if (keyD y).isSome = true then (match getK kvs y with
  | some v => ret (.d v)
  | none => ret x) else bad else bad
section
variable {g : G} {X : Cx} {E : WX} {F : Fm} {st : Stt} {σ : L2.St} {H : Hp} {o e f : Expr} {mo mk mx : M Hd} {apos cpos : PySem.Pos}
theorem dct_of {d : D} {kvs : List (D × D)} (e : dctOf d = some kvs) : d = .dct kvs := by
  cases d <;> simp only [dctOf, reduceCtorEq, Option.some.injEq] at e
  rw [e]
theorem is_dct {d : D} (e : isDct d = true) : ∃ kvs, d = .dct kvs := by
  cases d <;> simp only [isDct, Bool.false_eq_true] at e
  exact ⟨_, rfl⟩
theorem rf_get1 (hu : X.A.units + 1 < cLine) (ho : PE X o (RE g E mo)) (he : PE X e (RE g E mk)) (m : M1 X o "get" apos e cpos) : PE X (.Call (.Attribute o "get" apos) [e] [] cpos) (RE g E (mGet1 mo mk)) :=
  (pe_dget1 hu ho he m).weak fun σ H Q ⟨F, st, w⟩ => ⟨F, st, (RFw.bind (R := RH g) w).mono fun v H1 ⟨F1, h1, st1, l1, r1, w⟩ => by
    obtain ⟨d0, rd0, w⟩ := w.look_bind r1
    split at w
    · rename_i hd
      obtain ⟨kvs0, rfl⟩ := is_dct hd
      obtain ⟨a, ks, rfl, h, _⟩ := rd0.dct
      refine ⟨a, rfl, .inl ⟨ks, h⟩, F1, st1, (RFw.bind (R := RH g) w).mono fun u H2 ⟨F2, h2, st2, l2, r2, w⟩ => ?_⟩
      obtain ⟨d, rd, w⟩ := w.look_bind (RepH.lk l2 r1)
      obtain ⟨y, ry, w⟩ := w.look_bind r2
      obtain ⟨kvs, e1, w2⟩ := w.opt_bind
      have := dct_of e1
      subst this
      split at w2
      · rename_i hk
        obtain ⟨k, hk⟩ := Option.isSome_iff_exists.mp hk
        obtain ⟨b, ks', eb, h', rr⟩ := rd.dct
        cases eb
        have ev := kV_key ry hk
        subst ev
        refine ⟨_, DGet.kR h', ?_⟩
        rcases rr.look hk with ⟨q1, q2⟩ | ⟨d, w', q1, q2, rw'⟩
        · rw [q1]
          rw [q2] at w2
          exact w2.here .non
        · rw [q1]
          rw [q2] at w2
          exact w2.here rw'
      · exact w2.2.elim
    · exact w.2.elim⟩
theorem rf_get2 (hu : X.A.units + 1 < cLine) (ho : PE X o (RE g E mo)) (he : PE X e (RE g E mk)) (hf : PE X f (RE g E mx)) (m : M2 X o "get" apos e f cpos) : PE X (.Call (.Attribute o "get" apos) [e, f] [] cpos) (RE g E (mGet2 mo mk mx)) :=
  (pe_dget2 hu ho he hf m).weak fun σ H Q ⟨F, st, w⟩ => ⟨F, st, (RFw.bind (R := RH g) w).mono fun v H1 ⟨F1, h1, st1, l1, r1, w⟩ => by
    obtain ⟨d0, rd0, w⟩ := w.look_bind r1
    split at w
    · rename_i hd
      obtain ⟨kvs0, rfl⟩ := is_dct hd
      obtain ⟨a, ks, rfl, h, _⟩ := rd0.dct
      refine ⟨a, rfl, .inl ⟨ks, h⟩, F1, st1, (RFw.bind (R := RH g) w).mono fun u H2 ⟨F2, h2, st2, l2, r2, w⟩ => ?_⟩
      refine ⟨F2, st2, (RFw.bind (R := RH g) w).mono fun z H3 ⟨F3, h3, st3, l3, r3, w⟩ => ?_⟩
      obtain ⟨d, rd, w⟩ := w.look_bind (RepH.lk l3 (RepH.lk l2 r1))
      obtain ⟨y, ry, w⟩ := w.look_bind (RepH.lk l3 r2)
      obtain ⟨kvs, e1, w2⟩ := w.opt_bind
      have := dct_of e1
      subst this
      split at w2
      · rename_i hk
        obtain ⟨k, hk⟩ := Option.isSome_iff_exists.mp hk
        obtain ⟨b, ks', eb, h', rr⟩ := rd.dct
        cases eb
        have ev := kV_key ry hk
        subst ev
        refine ⟨_, DGet.kR h', ?_⟩
        rcases rr.look hk with ⟨q1, q2⟩ | ⟨d, w', q1, q2, rw'⟩
        · rw [q1]
          rw [q2] at w2
          exact w2.here r3
        · rw [q1]
          rw [q2] at w2
          exact w2.here rw'
      · exact w2.2.elim
    · exact w.2.elim⟩
end
end Rf

set_option Elab.async false
set_option linter.all false
set_option maxRecDepth 100000
/-! Rf, part z5: enumerate, zip: over lists and tuples in any mix. -/
namespace Rf
open PySem PySem.Spec PyProof.Rows L2

/-- a tuple's items (true), a list's (false) -/
def SqB (K : PySem.W.Frag) : Bool → Hp → Addr → List V → Prop
  | true, H, a, xs => SqT K H a xs
  | false, H, a, xs => SqL K H a xs
def IsB : Bool → PySem.Heap → Addr → Array Value → Prop
  | true, h, a, its => h.IsTuple a its
  | false, h, a, its => h.IsList a its
def ItB : Bool → PySem.Heap → Addr → Addr → Nat → Prop
  | true, h, it, a, i => h.IsTupleIter it a i
  | false, h, it, a, i => h.IsListIter it a i
def obB (b : Bool) (a : Addr) : Obj := { cls := .type (if b then "tuple_iterator" else "list_iterator"), data := .fields #[.ref a, .int 0 0] }
section
variable {X : Cx} {pins : List (Addr × Obj)} {σ : L2.St} {H : Hp} {s : Shared} {b : Bool} {a it : Addr} {xs ys : List V} {i : Nat} {its : Array Value}
theorem SqB.is (I : Inv X pins σ H s) (h : SqB X.K b H a xs) : ∃ its : List Value, Vals xs its ∧ IsB b s.heap a its.toArray := by
  cases b with
  | true => obtain ⟨its, r, p, _⟩ := I.tuple h; exact ⟨its, r, p⟩
  | false => obtain ⟨its, r, p, _⟩ := I.list h; exact ⟨its, r, p.isList⟩
theorem SqB.inj (I : Inv X pins σ H s) (h : SqB X.K b H a xs) (h' : SqB X.K b H a ys) : xs = ys := by
  cases b with
  | true => exact I.tuple_inj h h'
  | false => exact I.list_inj h h'
theorem drawsB {prog : Program} {w : World} {A : Around} (hh : A.handled = none) (hne : a ≠ it) : Draws prog w A it [it, a] its.size (fun i v => its[i]? = some v) (fun i h => ItB b h it a i ∧ IsB b h a its) := by
  cases b with
  | true => exact .tuple hh it a hne its
  | false => exact .list hh it a hne its
theorem draws_end {prog : Program} {w : World} {A : Around} (hh : A.handled = none) (hne : a ≠ it) (hi : its.size ≤ i) : Draws prog w A it [it, a] i (fun _ _ => True) (fun j h => j = i ∧ ItB b h it a i ∧ IsB b h a its) where
  live := fun _ _ st => by
    obtain ⟨_, p, _⟩ := st
    cases b with
    | true => obtain ⟨o, e, _⟩ := p; exact ⟨o, e⟩
    | false => obtain ⟨o, e, _⟩ := p; exact ⟨o, e⟩
  frame := fun _ _ _ st hk => by
    obtain ⟨e, p, q⟩ := st
    refine ⟨e, ?_⟩
    cases b with
    | true => exact ⟨Heap.IsTupleIter.at p fun o e => hk it (by simp) o e, Heap.IsTuple.at q fun o e => hk a (by simp) o e⟩
    | false => exact ⟨Heap.IsListIter.at p fun o e => hk it (by simp) o e, Heap.IsList.at q fun o e => hk a (by simp) o e⟩
  item := fun j s Q E hlt st _ => absurd hlt (by rw [st.1]; exact Nat.lt_irrefl _)
  done := fun s Q E st hE => by
    obtain ⟨_, p, q⟩ := st
    have e : its[i]? = none := by simp [hi]
    cases b with
    | true => exact wpAny_nextOf_tuple_end hh p q e hE
    | false => exact wpAny_nextOf_list_end hh p q e hE
theorem draws_at {prog : Program} {w : World} {A : Around} {h : PySem.Heap} (hh : A.handled = none) (hne : a ≠ it) (p : ItB b h it a i) (q : IsB b h a its) :
    ∃ (n : Nat) (P : Nat → Value → Prop) (St : Nat → PySem.Heap → Prop), Draws prog w A it [it, a] n P St ∧ St i h ∧ i ≤ n ∧ (its.size ≤ i → n = i) := by
  by_cases hi : its.size ≤ i
  · exact ⟨_, _, _, draws_end (b := b) hh hne hi, ⟨rfl, p, q⟩, Nat.le_refl _, fun _ => rfl⟩
  · exact ⟨_, _, _, drawsB (b := b) (its := its) hh hne, ⟨p, q⟩, by omega, fun z => absurd z hi⟩
theorem IsB.obj {h : PySem.Heap} (p : IsB b h a its) : ∃ o, h.get? a = some o ∧ o.cls = .type (if b then "tuple" else "list") := by
  cases b with
  | true => obtain ⟨o, e, c, _⟩ := p; exact ⟨o, e, c⟩
  | false => obtain ⟨o, e, c, _⟩ := p; exact ⟨o, e, c⟩
theorem ItB.obj {h : PySem.Heap} (p : ItB b h it a i) : ∃ o, h.get? it = some o ∧ o.cls = .type (if b then "tuple_iterator" else "list_iterator") ∧ ∃ vs, o.data = .fields vs := by
  cases b with
  | true => obtain ⟨o, e, c, d⟩ := p; exact ⟨o, e, c, _, d⟩
  | false => obtain ⟨o, e, c, d⟩ := p; exact ⟨o, e, c, _, d⟩
theorem ItB.at {h h' : PySem.Heap} (p : ItB b h it a i) (k : ∀ o, h.get? it = some o → h'.get? it = some o) : ItB b h' it a i := by
  cases b with
  | true => obtain ⟨o, e, c⟩ := p; exact ⟨o, k o e, c⟩
  | false => obtain ⟨o, e, c⟩ := p; exact ⟨o, k o e, c⟩
theorem ItB.new {h : PySem.Heap} (e : h.get? it = some (obB b a)) : ItB b h it a 0 := by
  cases b with
  | true => exact ⟨_, e, rfl, rfl⟩
  | false => exact ⟨_, e, rfl, rfl⟩
theorem beginsB : Begins (.ref a) (obB b a) (fun h => IsB b h a its) := by
  cases b with
  | true => exact begins_tuple a its
  | false => exact begins_list a its
theorem IsB.apart {h : PySem.Heap} {c : Bool} {e : Addr} {o : Obj} {n : String} (p : IsB b h a its) (q : h.get? e = some o) (hc : o.cls = .type n) (hn : (n == "tuple" || n == "list") = false) : a ≠ e := by
  intro z
  subst z
  obtain ⟨o', e', c'⟩ := p.obj
  rw [q] at e'; cases e'
  rw [hc] at c'
  cases b <;> simp at c' <;> subst c' <;> simp at hn

/-! ### enumerate -/
/-- the list | tuple at a as it stands at each turn, each item in a new pair -/
def IteB (K : PySem.W.Frag) (b : Bool) (a : Addr) : L2.It :=
  ⟨fun i H => ∃ (xs : List V) (x : V), SqB K b H a xs ∧ xs[i]? = some x, fun i H v H' => ∃ T x, v = .ref T ∧ H T = none ∧ H' = upd H T (.tup [.int (i : Nat), x]) ∧ ∀ xs, SqB K b H a xs → xs[i]? = some x, fun i H => ∃ xs : List V, SqB K b H a xs ∧ xs.length ≤ i⟩
end
theorem turn_enumB {P : Program} {w : World} {K : PySem.W.Frag} {elts : List Expr} {kk : Nat} {tpos : PySem.Pos} (b : Bool) (a e it : Addr) :
    Turn P w K (.Tuple elts kk tpos) (IteB K b a) [e, it] e (fun i h => (∃ old, IsEnum h e it ((i : Nat) : Int) old) ∧ ItB b h it a i ∧ e ≠ it) where
  mem := by simp
  obj := fun i h st c hc => by
    obtain ⟨⟨old, he⟩, hi, _⟩ := st
    obtain ⟨o, ho, _, vs, hd⟩ := hi.obj
    have e' : c = e ∨ c = it := by simpa using hc
    rcases e' with z | z
    · rw [z]; exact ⟨_, he, fun v q => nomatch q⟩
    · rw [z]; exact ⟨o, ho, fun v q => by rw [hd] at q; cases q⟩
  keep := fun i h h' st k => let ⟨⟨old, he⟩, hi, hne⟩ := st; ⟨⟨old, k e (by simp) _ he⟩, hi.at fun o q => k it (by simp) o q, hne⟩
  item := by
    intro X hP hw hK hc i pins s σ H E I hf st hg
    subst hP hw hK
    obtain ⟨⟨old, he⟩, hit, hne⟩ := st
    obtain ⟨xs, x, hq, hx⟩ := hg
    obtain ⟨its, rv, p⟩ := hq.is I
    obtain ⟨u, hu, ru⟩ := rv.get hx
    obtain ⟨oi, hoi, ci, _⟩ := hit.obj
    have hel : e < s.heap.objs.size := Heap.lt_size he
    have hil : it < s.heap.objs.size := Heap.lt_size hoi
    have hai : a ≠ it := p.apart (c := b) hoi ci (by cases b <;> rfl)
    have hae : a ≠ e := p.apart (c := b) he rfl rfl
    have hil2 : i < its.toArray.size := by
      have := (List.getElem?_eq_some_iff.mp hu).1
      simpa using this
    refine wpAny_pyNext_enum_itemD (drawsB (prog := X.prog) (w := X.w) (A := X.A.in1) (I.ok.hd hc) hai) he ⟨hit, p⟩ hil2 hne (by simp [hne, Ne.symm hae]) fun y h' tk hy ho hit' hT hsz hk => ?_
    have ey : y = u := by
      have q : its[i]? = some y := by simpa using hy
      rw [hu] at q; exact (Option.some.inj q).symm
    subst ey
    refine ⟨_, rfl, wpAny_letOwnedTupleGo_enum (s := { s with heap := h', toks := tk + 1 }) ho fun h'' he' sb => ?_⟩
    have hT2 : h''.get? s.heap.objs.size = some { cls := .type "tuple", data := .seq #[.int i tk, y] } := (sb.2 _ (Nat.ne_of_gt hel)).trans hT
    have new : ObjOk X.prog X.w (upd H s.heap.objs.size (.tup [.int (i : Nat), x])) h'' s.heap.objs.size (.tup [.int (i : Nat), x]) :=
      ⟨by show 2 ≤ sizeLine; decide, [.int i tk, y], .cons ⟨_, rfl⟩ (.cons ru .nil), ⟨_, hT2, rfl, _, rfl⟩⟩
    have I1 : Inv X pins σ (upd H s.heap.objs.size (.tup [.int (i : Nat), x])) { s with heap := h'', toks := tk + 1 } :=
      I.turnedNew (ch := [e, it]) (fun b ob hb q => (sb.2 b (fun z => hb (by simp [z]))).trans (hk b ob (fun z => hb (by simp [z])) (fun z => hb (by simp [z])) q)) hf (Nat.le_refl _) new
    refine ⟨.ref s.heap.objs.size, _, I1, rfl, ⟨_, x, rfl, I.hok.fresh (Nat.le_refl _), rfl, fun ys hy => by rw [hy.inj I hq]; exact hx⟩, ⟨⟨y, ?_⟩, hit'.1.at fun o q => (sb.2 it (Ne.symm hne)).trans q, hne⟩, fun b hb => ?_⟩
    · have e1 : ((i + 1 : Nat) : Int) = (i : Int) + 1 := by omega
      rw [e1]; exact he'
    · have hb' : b < s.heap.objs.size := by
        have e' : b = e ∨ b = it := by simpa using hb
        rcases e' with z | z
        · rw [z]; exact hel
        · rw [z]; exact hil
      rw [upd_ne (Nat.ne_of_lt hb')]
      exact (hf b hb).1
  done := by
    intro X hP hw hK hc i pins s σ H E I hf st hg
    subst hP hw hK
    obtain ⟨⟨old, he⟩, hit, hne⟩ := st
    obtain ⟨xs, hq, hx⟩ := hg
    obtain ⟨its, rv, p⟩ := hq.is I
    obtain ⟨f0, f1, f2, f3, f4, f5⟩ := hf it (by simp)
    obtain ⟨oi, hoi, ci, _⟩ := hit.obj
    have hai : a ≠ it := p.apart (c := b) hoi ci (by cases b <;> rfl)
    obtain ⟨n, P, St, D, st, _, en⟩ := draws_at (prog := X.prog) (w := X.w) (A := X.A.in1) (I.ok.hd hc) hai hit p
    have hl := rv.length
    obtain rfl := en (by simp; omega)
    exact wpAny_pyNext_enum_endD D he st fun h' eb => ⟨rfl, I.turned (t' := s.toks) (fun b o hb q => eb b o hb q) f0 f1 f3 f4 f5⟩
  self := fun A i s Q E st h => let ⟨⟨_, he⟩, _⟩ := st; wpAny_pyIter_enum he h
theorem meets_enumerate_new1 {v : Value} {o : Obj} {H : PySem.Heap → Prop} (B : Begins v o H) :
    Meets (Builtin.«enumerate.__new__» ⟨[.type "enumerate", v], []⟩) (fun _ R s => H s.heap ∧
      R (.ok (.ret (.ref (s.heap.push o).objs.size))) { s with heap := (s.heap.push o).push { cls := .type "enumerate", data := .fields #[.none, .bool false, .ref s.heap.objs.size, rawInt 0, .none, .none] } }) :=
  .of_wp fun prog w A R s h => by
    obtain ⟨hp, g, d, tk, os⟩ := s; obtain ⟨h1, h⟩ := h
    have hsub := sub_enumerate
    have q1 : ∀ {A' : Around} {E : Value → Shared → Prop} {Q : Value → Shared → Prop}, Q (.ref hp.objs.size) ⟨hp.push o, g, d, tk, os⟩ → wpAny (model prog w) A' (pyIter v) Q E ⟨hp, g, d, tk, os⟩ :=
      fun q => B.iter prog w _ _ ⟨hp, g, d, tk, os⟩ _ h1 q
    wp_walk using q1
    refine wpAny_stack_any fun st => wpAny_pure ?_
    split
    · rename_i c _ _ _ _ _
      cases (c == Value.type "enumerate")
      · wp_walk using q1
        exact ⟨_, rfl, h⟩
      · wp_walk using q1
        exact ⟨_, rfl, h⟩
    · wp_walk using q1
      exact ⟨_, rfl, h⟩
section
variable {prog : Program} {w : World} {A : Around} {E : Value → Shared → Prop} {s : Shared}
theorem enum_begins1 {v : Value} {o : Obj} {H : PySem.Heap → Prop} {Q : Value → Shared → Prop} (B : Begins v o H) (h1 : H s.heap)
    (h : ∀ h', IsEnum h' (s.heap.objs.size + 1) s.heap.objs.size 0 .none → h'.get? s.heap.objs.size = some o → h'.objs.size = s.heap.objs.size + 2 →
      (∀ b o, s.heap.get? b = some o → h'.get? b = some o) → Q (.ref (s.heap.objs.size + 1)) { s with heap := h' }) :
    wpAny (model prog w) A (call (.type "enumerate") [v]) Q E s := by
  refine callType_new F.called_enumerate (by decide) (F.typeCall_enumerate_1 _) (F.newCall_enumerate_1 _) (fun obj => F.args_object_init_2 obj _) F.entry_enumerate_new
    (meets_enumerate_new1 B) ⟨h1, ?_⟩
  have hz : (s.heap.push o).objs.size = s.heap.objs.size + 1 := Heap.size_push ..
  show _ ∧ _
  rw [hz]
  have he : IsEnum ((s.heap.push o).push { cls := .type "enumerate", data := .fields #[.none, .bool false, .ref s.heap.objs.size, rawInt 0, .none, .none] }) (s.heap.objs.size + 1) s.heap.objs.size 0 .none := by
    have := Heap.get?_push_size (s.heap.push o) (o := { cls := .type "enumerate", data := .fields #[.none, .bool false, .ref s.heap.objs.size, rawInt 0, .none, .none] }) rfl
    rw [hz] at this; exact this
  refine ⟨⟨_, he, rfl⟩, h _ he (Heap.get?_push_of_some _ (Heap.get?_push_size _ B.free)) (by rw [Heap.size_push, hz]) fun b o x => Heap.get?_push_of_some _ (Heap.get?_push_of_some _ x)⟩
end
def iEnumB (K : PySem.W.Frag) (ta : TA) : TI := fun σ H R => ta σ H fun vs H1 => ∃ b a xs, vs = [.ref a] ∧ SqB K b H1 a xs ∧ R (IteB K b a) H1
theorem pi_enumB {X : Cx} {e : Expr} {ta : TA} {p pos tpos : PySem.Pos} {elts : List Expr} {kk : Nat} (hg : Gl X "enumerate") (hm : X.mg "enumerate" = none) (ha : PA X [e] ta) (hs : starEach [e] X.env = [(false, eval e X.env)]) :
    PI X (.Tuple elts kk tpos) (.Call (.Name "enumerate" p) [e] [] pos) (iEnumB X.K ta) := by
  refine ⟨fun pins s σ H R I h => ?_⟩
  refine Call_ (ld_blt I hg hm boot_enumerate (PyProof.Rows.callWith_type1 (thn (ha.run pos pins s σ H _ I h) fun us s1 ⟨vs, H1, I1, r1, q1⟩ => ?_) hs rfl))
  obtain ⟨b, a, xs, ex, hq, q⟩ := q1
  subst ex
  cases r1 with
  | cons r rr =>
    cases rr
    cases r
    obtain ⟨its, rv, p'⟩ := hq.is I1
    refine enum_begins1 (beginsB (b := b)) p' fun h' he hit hsz hk => wpAny_pyIter_enum he ?_
    have I2 : Inv X pins σ H1 { s1 with heap := h' } := I1.kept (t' := s1.toks) hk
    refine ⟨s1.heap.objs.size + 1, [s1.heap.objs.size + 1, s1.heap.objs.size], _, _, H1, rfl, I2, turn_enumB b a (s1.heap.objs.size + 1) s1.heap.objs.size, ⟨⟨.none, he⟩, .new hit, Nat.succ_ne_self _⟩, fun b hb => ?_, q⟩
    have e' : b = s1.heap.objs.size + 1 ∨ b = s1.heap.objs.size := by simpa using hb
    have hle : s1.heap.objs.size ≤ b := by
      rcases e' with z | z
      · rw [z]; exact Nat.le_add_right _ _
      · rw [z]; exact Nat.le_refl _
    exact I1.fpOk hle (I1.hok.fresh hle)

/-! ### the rules -/
def iEnm (m : M Hd) : M It := bnd m fun h => bnd (look h) fun d => match d with
  | .lst _ | .frl _ => ret (.enm false h)
  | .tup _ => ret (.enm true h)
  | _ => bad
section
variable {g : G} {X : Cx} {E : L2.WX} {F F1 : Fm} {st : Stt} {σ : L2.St} {H H1 : Hp}
theorem RepC.sqB {K : PySem.W.Frag} {ca : CA} {ρ : List Addr} {W : Addr → Prop} {d : D} {xs : List D} {v : V} {b : Bool} (r : RepC K ca ρ (hide W H) H d v) (e : sqOf b d = some xs) : ∃ a vs, v = .ref a ∧ SqB K b H a vs ∧ Reps K ca ρ (hide W H) xs vs := by
  cases b with
  | true => exact r.tupO e
  | false => exact r.lstO e
theorem FrOk.pair (ok : FrOk g.K g.ca F st σ H) {T : Addr} {x y : D} {v u : V} (hT : H T = none) (rx : Rep g.K g.ca F.ρ (hide F.W H) x v) (ry : Rep g.K g.ca F.ρ (hide F.W H) y u) :
    Lk F H F (L2.upd H T (.tup [v, u])) ∧ FrOk g.K g.ca F st σ (L2.upd H T (.tup [v, u])) ∧ Rep g.K g.ca F.ρ (hide F.W (L2.upd H T (.tup [v, u]))) (.tup [x, y]) (.ref T) :=
  ⟨ok.lk_upd hT, ok.upd hT, .tup (.inl (.inl (ok.seen hT))) (.cons (Rep.lk (ok.lk_upd hT) rx) (.cons (Rep.lk (ok.lk_upd hT) ry) .nil))⟩
theorem itS_enm {h : Hd} {a : Addr} {b : Bool} (r : RepH g.K g.ca F σ H h (.ref a)) : ItS g (.enm b h) (IteB g.K b a) F σ H := fun F' st' σ' H' l ok e i => by
  have r' := RepH.lkS' (σ' := σ') l e r
  have key : ∀ o, (It.enm b h).at i st' = some o → ∃ xs vs, SqB g.K b H' a vs ∧ Reps g.K g.ca F'.ρ (hide F'.W H') xs vs ∧ (xs[i]?).map (fun x => D.tup [.int i, x]) = o := fun o q => by
    simp only [It.at, Option.map_eq_some_iff, Option.bind_eq_some_iff] at q
    obtain ⟨xs, ⟨d, c, q1⟩, q2⟩ := q
    obtain ⟨b, vs, e1, e2, e3⟩ := (cont_rep ok r' c).sqB q1
    cases e1
    exact ⟨xs, vs, e2, e3, q2⟩
  refine ⟨fun x q => ?_, fun q => ?_⟩
  · obtain ⟨xs, vs, h1, h2, h3⟩ := key _ q
    obtain ⟨z, ez, e0⟩ := Option.map_eq_some_iff.mp h3
    subst e0
    obtain ⟨v, e1, e2⟩ := h2.get ez
    refine ⟨⟨vs, v, h1, e1⟩, fun u H'' ⟨T, y, y1, y2, y3, y4⟩ => ?_⟩
    subst y1 y3
    have := y4 vs h1
    rw [e1] at this; cases this
    exact ok.pair y2 (.int _) e2
  · obtain ⟨xs, vs, h1, h2, h3⟩ := key _ q
    exact ⟨vs, h1, by rw [← h2.length]; exact List.getElem?_eq_none_iff.mp (Option.map_eq_none_iff.mp h3)⟩
theorem ri_enum {e : Expr} {m : M Hd} {p pos tpos : PySem.Pos} {elts : List Expr} {kk : Nat} (hK : X.K = g.K) (hg : Gl X "enumerate") (hm : X.mg "enumerate" = none) (he : PE X e (RE g E m)) (hs1 : starEach [e] X.env = (false, eval e X.env) :: starEach [] X.env) (hs : starEach [e] X.env = [(false, eval e X.env)]) :
    PI X (.Tuple elts kk tpos) (.Call (.Name "enumerate" p) [e] [] pos) (RI g E (iEnm m)) := (pi_enumB hg hm (pa_cons he pa_nil hs1) hs).weak fun σ H R ⟨F, st, w⟩ => ⟨F, st, (RFw.bind (R := RH g) w).mono fun v H1 ⟨F1, h1, st1, l1, r1, w⟩ => by
  obtain ⟨d, c, rd, w⟩ := w.look_bind' r1
  rw [hK]
  cases d <;> first | exact w.2.elim | skip
  · obtain ⟨a, vs, rfl, h, q⟩ := rd.tup
    exact ⟨true, a, vs, rfl, h, w.here (itS_enm r1)⟩
  · obtain ⟨a, vs, rfl, h, q⟩ := rd.lst
    exact ⟨false, a, vs, rfl, SqL.of h, w.here (itS_enm r1)⟩
  · obtain ⟨a, vs, rfl, h, q⟩ := rd.frl
    exact ⟨false, a, vs, rfl, h, w.here (itS_enm r1)⟩⟩
end
end Rf

set_option Elab.async false
set_option linter.all false
set_option maxRecDepth 100000
/-! Rf, part z6: zip of lists and tuples in any mix. -/
namespace Rf
open PySem PySem.Spec PyProof.Rows L2

/-- the lists | tuples at a and c as they stand at each turn, the items in new pairs -/
def ItzB (K : PySem.W.Frag) (b b' : Bool) (a c : Addr) : L2.It :=
  ⟨fun i H => ∃ (xs ys : List V) (x y : V), SqB K b H a xs ∧ SqB K b' H c ys ∧ xs[i]? = some x ∧ ys[i]? = some y,
    fun i H v H' => ∃ T x y, v = .ref T ∧ H T = none ∧ H' = upd H T (.tup [x, y]) ∧ (∀ xs, SqB K b H a xs → xs[i]? = some x) ∧ ∀ ys, SqB K b' H c ys → ys[i]? = some y,
    fun i H => ∃ xs ys : List V, SqB K b H a xs ∧ SqB K b' H c ys ∧ (xs.length ≤ i ∨ ys.length ≤ i)⟩
theorem turn_zipB {P : Program} {w : World} {K : PySem.W.Frag} {elts : List Expr} {kk : Nat} {tpos : PySem.Pos} {b b' : Bool} {a c z TI TO i1 i2 : Addr} (D : ZipSep2 z TI TO i1 i2 [i1, a] [i2, c]) :
    Turn P w K (.Tuple elts kk tpos) (ItzB K b b' a c) [z, TI, TO, i1, i2] z (fun i h => IsZip h z TI TO .none ∧ IsTupOf2 h TI (.ref i1) (.ref i2) ∧ (∃ x y, IsTupOf2 h TO x y) ∧ ItB b h i1 a i ∧ ItB b' h i2 c i) where
  mem := by simp
  obj := fun i h st e he => by
    obtain ⟨hz, hTI, ⟨x, y, hTO⟩, p1, p2⟩ := st
    obtain ⟨o1, e1, _, _, d1⟩ := p1.obj
    obtain ⟨o2, e2, _, _, d2⟩ := p2.obj
    have e' : e = z ∨ e = TI ∨ e = TO ∨ e = i1 ∨ e = i2 := by simpa using he
    rcases e' with q | q | q | q | q
    · rw [q]; exact ⟨_, hz, fun v q => nomatch q⟩
    · rw [q]; exact ⟨_, hTI, fun v q => nomatch q⟩
    · rw [q]; exact ⟨_, hTO, fun v q => nomatch q⟩
    · rw [q]; exact ⟨o1, e1, fun v q => by rw [d1] at q; cases q⟩
    · rw [q]; exact ⟨o2, e2, fun v q => by rw [d2] at q; cases q⟩
  keep := fun i h h' st k => by
    obtain ⟨hz, hTI, ⟨x, y, hTO⟩, h1, h2⟩ := st
    exact ⟨k z (by simp) _ hz, k TI (by simp) _ hTI, ⟨x, y, k TO (by simp) _ hTO⟩, h1.at fun o q => k i1 (by simp) o q, h2.at fun o q => k i2 (by simp) o q⟩
  item := by
    intro X hP hw hK hc i pins s σ H E I hf st hg
    subst hP hw hK
    obtain ⟨hz, hTI, ⟨x0, y0, hTO⟩, h1, h2⟩ := st
    obtain ⟨xs, ys, x, y, hqx, hqy, hx, hy⟩ := hg
    obtain ⟨its, rv, p⟩ := hqx.is I
    obtain ⟨its2, rv2, p2⟩ := hqy.is I
    obtain ⟨u, hu, ru⟩ := rv.get hx
    obtain ⟨u2, hu2, ru2⟩ := rv2.get hy
    obtain ⟨o1, ho1, c1, _⟩ := h1.obj
    obtain ⟨o2, ho2, c2, _⟩ := h2.obj
    have hzl : z < s.heap.objs.size := Heap.lt_size hz
    have n1 : a ≠ i1 := p.apart (c := b) ho1 c1 (by cases b <;> rfl)
    have n2 : c ≠ i2 := p2.apart (c := b') ho2 c2 (by cases b' <;> rfl)
    have l1 : i < its.toArray.size := by simpa using (List.getElem?_eq_some_iff.mp hu).1
    have l2 : i < its2.toArray.size := by simpa using (List.getElem?_eq_some_iff.mp hu2).1
    refine wpAny_pyNext_zipD2_item D (drawsB (prog := X.prog) (w := X.w) (A := X.A.in1) (b := b) (its := its.toArray) (I.ok.hd hc) n1) (drawsB (b := b') (its := its2.toArray) (I.ok.hd hc) n2) hz hTI hTO ⟨h1, p⟩ ⟨h2, p2⟩ l1 l2 fun x1 x2 h' tk q1 q2 z' TO' s1' s2' hT hsz hk => ?_
    obtain rfl : x1 = u := by
      have q : its[i]? = some x1 := by simpa using q1
      rw [hu] at q; exact (Option.some.inj q).symm
    obtain rfl : x2 = u2 := by
      have q : its2[i]? = some x2 := by simpa using q2
      rw [hu2] at q; exact (Option.some.inj q).symm
    refine ⟨_, rfl, wpAny_letOwnedTupleGo_zip (s := { s with heap := h', toks := tk }) z' fun h'' z'' sb => ?_⟩
    have hT2 : h''.get? s.heap.objs.size = some { cls := .type "tuple", data := .seq #[x1, x2] } := (sb.2 _ (Nat.ne_of_gt hzl)).trans hT
    have new : ObjOk X.prog X.w (upd H s.heap.objs.size (.tup [x, y])) h'' s.heap.objs.size (.tup [x, y]) :=
      ⟨by show 2 ≤ sizeLine; decide, [x1, x2], .cons ru (.cons ru2 .nil), ⟨_, hT2, rfl, _, rfl⟩⟩
    have I1 : Inv X pins σ (upd H s.heap.objs.size (.tup [x, y])) { s with heap := h'', toks := tk } :=
      I.turnedNew (t' := tk) (ch := [z, TI, TO, i1, i2]) (fun c o hb q => (sb.2 c (fun q' => hb (by simp [q']))).trans (hk c o (fun q' => hb (by simp [q'])) (fun q' => hb (by simp [q'])) (fun q' => hb (by simp [q'])) (fun q' => hb (by simp [q'])) q)) hf (Nat.le_refl _) new
    refine ⟨.ref s.heap.objs.size, _, I1, rfl, ⟨_, x, y, rfl, I.hok.fresh (Nat.le_refl _), rfl, fun l hl => by rw [hl.inj I hqx]; exact hx, fun l hl => by rw [hl.inj I hqy]; exact hy⟩, ⟨z'', ?_, ⟨x1, x2, ?_⟩, ?_, ?_⟩, fun c hcm => ?_⟩
    · exact (sb.2 _ D.TIz).trans (hk _ _ D.TIz D.TITO D.TIi1 D.TIi2 hTI)
    · exact (sb.2 _ D.TOz).trans TO'
    · exact s1'.1.at fun o q => (sb.2 _ (Ne.symm D.zi1)).trans q
    · exact s2'.1.at fun o q => (sb.2 _ (Ne.symm D.zi2)).trans q
    · have hlt : c < s.heap.objs.size := by
        have e' : c = z ∨ c = TI ∨ c = TO ∨ c = i1 ∨ c = i2 := by simpa using hcm
        rcases e' with q | q | q | q | q
        · rw [q]; exact hzl
        · rw [q]; exact Heap.lt_size hTI
        · rw [q]; exact Heap.lt_size hTO
        · rw [q]; exact Heap.lt_size ho1
        · rw [q]; exact Heap.lt_size ho2
      rw [upd_ne (Nat.ne_of_lt hlt)]
      exact (hf c hcm).1
  done := by
    intro X hP hw hK hc i pins s σ H E I hf st hg
    subst hP hw hK
    obtain ⟨hz, hTI, ⟨x0, y0, hTO⟩, h1, h2⟩ := st
    obtain ⟨xs, ys, hqx, hqy, hend⟩ := hg
    obtain ⟨its, rv, p⟩ := hqx.is I
    obtain ⟨its2, rv2, p2⟩ := hqy.is I
    obtain ⟨o1, ho1, c1, _⟩ := h1.obj
    obtain ⟨o2, ho2, c2, _⟩ := h2.obj
    have n1 : a ≠ i1 := p.apart (c := b) ho1 c1 (by cases b <;> rfl)
    have n2 : c ≠ i2 := p2.apart (c := b') ho2 c2 (by cases b' <;> rfl)
    have l1 := rv.length
    have l2 := rv2.length
    obtain ⟨m1, P1, S1, D1, st1, k1, e1⟩ := draws_at (prog := X.prog) (w := X.w) (A := X.A.in1) (I.ok.hd hc) n1 h1 p
    obtain ⟨m2, P2, S2, D2, st2, k2, e2⟩ := draws_at (prog := X.prog) (w := X.w) (A := X.A.in1) (I.ok.hd hc) n2 h2 p2
    have he : i = m1 ∨ i = m2 := by
      rcases hend with q | q
      · exact .inl (e1 (by simp; omega)).symm
      · exact .inr (e2 (by simp; omega)).symm
    exact wpAny_pyNext_zipD2_end D D1 D2 hz hTI hTO st1 st2 k1 k2 he fun h' tk hk => ⟨rfl, I.turnedL (t' := tk) (ch := [z, TI, TO, i1, i2]) (fun c o hb q =>
      hk c o (fun q' => hb (by simp [q'])) (fun q' => hb (by simp [q'])) (fun q' => hb (by simp [q'])) (fun q' => hb (by simp [q'])) q) hf⟩
  self := fun A i s Q E st h => wpAny_pyIter_zip st.1 h
def iZipB (K : PySem.W.Frag) (ta : TA) : TI := fun σ H R => ta σ H fun vs H1 => ∃ b b' a c xs ys, vs = [.ref a, .ref c] ∧ SqB K b H1 a xs ∧ SqB K b' H1 c ys ∧ R (ItzB K b b' a c) H1
theorem pi_zipB {X : Cx} {e e2 : Expr} {ta : TA} {p pos tpos : PySem.Pos} {elts : List Expr} {kk : Nat} (hg : Gl X "zip") (hm : X.mg "zip" = none) (ha : PA X [e, e2] ta)
    (hs : starEach [e, e2] X.env = (false, eval e X.env) :: starEach [e2] X.env) (hpl : (backTo pos (starEach [e2] X.env)).any (·.1) = false) :
    PI X (.Tuple elts kk tpos) (.Call (.Name "zip" p) [e, e2] [] pos) (iZipB X.K ta) := by
  refine ⟨fun pins s σ H R I h => ?_⟩
  refine Call_ (ld_blt I hg hm PyProof.Rows.boot_zip (PyProof.Rows.callWith_type1 (thn (ha.run pos pins s σ H _ I h) fun us s1 ⟨vs, H1, I1, r1, q1⟩ => ?_) hs hpl))
  obtain ⟨b, b', a, c, xs, ys, ex, hqx, hqy, q⟩ := q1
  subst ex
  cases r1 with
  | cons r rr =>
    cases rr with
    | cons r' rr =>
      cases rr
      cases r
      cases r'
      have fresh5 : ∀ c, c ∈ [s1.heap.objs.size + 4, s1.heap.objs.size + 2, s1.heap.objs.size + 3, s1.heap.objs.size, s1.heap.objs.size + 1] → FpOk X pins H1 c := fun c hcm => by
        have e' : c = s1.heap.objs.size + 4 ∨ c = s1.heap.objs.size + 2 ∨ c = s1.heap.objs.size + 3 ∨ c = s1.heap.objs.size ∨ c = s1.heap.objs.size + 1 := by simpa using hcm
        have hle : s1.heap.objs.size ≤ c := by
          rcases e' with z | z | z | z | z
          · rw [z]; exact Nat.le_add_right _ _
          · rw [z]; exact Nat.le_add_right _ _
          · rw [z]; exact Nat.le_add_right _ _
          · rw [z]; exact Nat.le_refl _
          · rw [z]; exact Nat.le_add_right _ _
        exact I1.fpOk hle (I1.hok.fresh hle)
      obtain ⟨its, rv, p1⟩ := hqx.is I1
      obtain ⟨its2, rv2, p2⟩ := hqy.is I1
      obtain ⟨o1, ho1, _⟩ := p1.obj
      obtain ⟨o2, ho2, _⟩ := p2.obj
      have la : a < s1.heap.objs.size := Heap.lt_size ho1
      have lc : c < s1.heap.objs.size := Heap.lt_size ho2
      refine zip_begins2 (beginsB (b := b)) (beginsB (b := b')) p1 p2 fun h' hz hTI hTO h1 h2 hsz hk => wpAny_pyIter_zip hz ?_
      have I2 : Inv X pins σ H1 { s1 with heap := h' } := I1.kept (t' := s1.toks) hk
      exact ⟨s1.heap.objs.size + 4, [s1.heap.objs.size + 4, s1.heap.objs.size + 2, s1.heap.objs.size + 3, s1.heap.objs.size, s1.heap.objs.size + 1], _, _, H1, rfl, I2,
        turn_zipB (zip_sep2 (fp1 := [a]) (fp2 := [c]) (fun x hx => by rw [List.mem_singleton.mp hx]; exact la) (fun x hx => by rw [List.mem_singleton.mp hx]; exact lc)), ⟨hz, hTI, ⟨_, _, hTO⟩, .new h1, .new h2⟩, fresh5, q⟩

def kindB : D → Option Bool
  | .lst _ | .frl _ => some false
  | .tup _ => some true
  | _ => none
def iZip (ma mb : M Hd) : M It := bnd ma fun h => bnd mb fun k => bnd (look h) fun x => bnd (look k) fun y => bnd (opt (kindB x)) fun b => bnd (opt (kindB y)) fun c => ret (.zip b c h k)
section
variable {g : G} {X : Cx} {E : L2.WX} {F F1 : Fm} {st : Stt} {σ : L2.St} {H H1 : Hp}
theorem RepC.kind {K : PySem.W.Frag} {ca : CA} {ρ : List Addr} {W : Addr → Prop} {d : D} {v : V} {b : Bool} (r : RepC K ca ρ (hide W H) H d v) (e : kindB d = some b) : ∃ a vs, v = .ref a ∧ SqB K b H a vs := by
  cases d <;> simp [kindB] at e <;> subst e
  · obtain ⟨a, vs, rfl, h, q⟩ := r.tup; exact ⟨a, vs, rfl, h⟩
  · obtain ⟨a, vs, rfl, h, q⟩ := r.lst; exact ⟨a, vs, rfl, SqL.of h⟩
  · obtain ⟨a, vs, rfl, h, q⟩ := r.frl; exact ⟨a, vs, rfl, h⟩
theorem itS_zip {h k : Hd} {a c : Addr} {b b' : Bool} (r : RepH g.K g.ca F σ H h (.ref a)) (r2 : RepH g.K g.ca F σ H k (.ref c)) : ItS g (.zip b b' h k) (ItzB g.K b b' a c) F σ H := fun F' st' σ' H' l ok e i => by
  have r' := RepH.lkS' (σ' := σ') l (fun j hj => e j (List.mem_append_left _ hj)) r
  have r2' := RepH.lkS' (σ' := σ') l (fun j hj => e j (List.mem_append_right _ hj)) r2
  have key : ∀ o, (It.zip b b' h k).at i st' = some o → ∃ xs vs ys us, SqB g.K b H' a vs ∧ Reps g.K g.ca F'.ρ (hide F'.W H') xs vs ∧ SqB g.K b' H' c us ∧ Reps g.K g.ca F'.ρ (hide F'.W H') ys us ∧ ((xs[i]?).bind fun x => (ys[i]?).map fun y => D.tup [x, y]) = o := fun o q => by
    simp only [It.at, Option.map_eq_some_iff, Option.bind_eq_some_iff] at q
    obtain ⟨xs, ⟨d, c1, q1⟩, ys, ⟨d2, c2, q2⟩, q3⟩ := q
    obtain ⟨b, vs, e1, e2, e3⟩ := (cont_rep ok r' c1).sqB q1
    obtain ⟨b2, us, e4, e5, e6⟩ := (cont_rep ok r2' c2).sqB q2
    cases e1; cases e4
    exact ⟨xs, vs, ys, us, e2, e3, e5, e6, q3⟩
  refine ⟨fun x q => ?_, fun q => ?_⟩
  · obtain ⟨xs, vs, ys, us, h1, h2, h3, h4, h5⟩ := key _ q
    obtain ⟨z, ez, e0⟩ := Option.bind_eq_some_iff.mp h5
    obtain ⟨z2, ez2, e0⟩ := Option.map_eq_some_iff.mp e0
    subst e0
    obtain ⟨v, e1, e2⟩ := h2.get ez
    obtain ⟨u, e3, e4⟩ := h4.get ez2
    refine ⟨⟨vs, us, v, u, h1, h3, e1, e3⟩, fun w H'' ⟨T, y, y', y1, y2, y3, y4, y5⟩ => ?_⟩
    subst y1 y3
    have := y4 vs h1
    rw [e1] at this; cases this
    have := y5 us h3
    rw [e3] at this; cases this
    exact ok.pair y2 e2 e4
  · obtain ⟨xs, vs, ys, us, h1, h2, h3, h4, h5⟩ := key _ q
    refine ⟨vs, us, h1, h3, ?_⟩
    rw [← h2.length, ← h4.length]
    cases ex : xs[i]? with
    | none => exact .inl (List.getElem?_eq_none_iff.mp ex)
    | some z =>
      rw [ex] at h5
      exact .inr (List.getElem?_eq_none_iff.mp (Option.map_eq_none_iff.mp h5))
theorem ri_zip {e e2 : Expr} {m m2 : M Hd} {p pos tpos : PySem.Pos} {elts : List Expr} {kk : Nat} (hK : X.K = g.K) (hg : Gl X "zip") (hm : X.mg "zip" = none) (he : PE X e (RE g E m)) (he2 : PE X e2 (RE g E m2))
    (hs : starEach [e, e2] X.env = (false, eval e X.env) :: starEach [e2] X.env) (hs2 : starEach [e2] X.env = (false, eval e2 X.env) :: starEach [] X.env) (hpl : (backTo pos (starEach [e2] X.env)).any (·.1) = false) :
    PI X (.Tuple elts kk tpos) (.Call (.Name "zip" p) [e, e2] [] pos) (RI g E (iZip m m2)) := (pi_zipB hg hm (pa_cons he (pa_cons he2 pa_nil hs2) hs) hs hpl).weak fun σ H R ⟨F, st, w⟩ => ⟨F, st, (RFw.bind (R := RH g) w).mono fun v H1 ⟨F1, h1, st1, l1, r1, w⟩ =>
  ⟨F1, st1, (RFw.bind (R := RH g) w).mono fun u H2 ⟨F2, h2, st2, l2, r2, w⟩ => by
  have r1' := RepH.lk l2 r1
  obtain ⟨d, c, rd, w⟩ := w.look_bind' r1'
  obtain ⟨d2, c2, rd2, w⟩ := w.look_bind' r2
  obtain ⟨b, eb, w⟩ := w.opt_bind
  obtain ⟨b', eb', w⟩ := w.opt_bind
  rw [hK]
  obtain ⟨a, vs, rfl, q1⟩ := rd.kind eb
  obtain ⟨a', us, rfl, q2⟩ := rd2.kind eb'
  exact ⟨b, b', a, a', vs, us, rfl, q1, q2, w.here (itS_zip r1' r2)⟩⟩⟩
end
end Rf

set_option Elab.async false
set_option linter.all false
set_option maxRecDepth 100000
/-! Rf, part z7: minus, slices by steps, sorted ints. -/
namespace Rf
open PySem PySem.Spec PyProof.Rows L2

def negO : D → Option D
  | .int i => some (.int (-i))
  | _ => none
def pickL {α : Type} (xs : List α) (is : List Nat) : List α := is.filterMap (xs[·]?)
def stepIx (n k : Nat) : List Nat := sliceRange 0 n k
def stepD (k : Nat) (x : D) : Option D := (lstOf x).map fun xs => .lst (pickL xs (stepIx xs.length k))
def insI (x : Int) : List Int → List Int
  | [] => [x]
  | y :: r => if x ≤ y then x :: y :: r else y :: insI x r
def srtI : List Int → List Int
  | [] => []
  | x :: r => insI x (srtI r)
def srtO (x : D) : Option D := (lstOf x).bind fun xs => (intsOf xs).bind fun ns => if ns.length < 64 then some (.lst ((srtI ns).map .int)) else none
theorem insI_perm (x : Int) : ∀ r : List Int, (insI x r).Perm (x :: r)
  | [] => List.Perm.refl _
  | y :: r => by
    unfold insI
    split
    · exact List.Perm.refl _
    · exact (List.Perm.cons y (insI_perm x r)).trans (List.Perm.swap x y r)
theorem srtI_perm : ∀ r : List Int, (srtI r).Perm r
  | [] => List.Perm.refl _
  | x :: r => (insI_perm x (srtI r)).trans (List.Perm.cons x (srtI_perm r))
theorem insI_sorted (x : Int) : ∀ r : List Int, r.Pairwise (· ≤ ·) → (insI x r).Pairwise (· ≤ ·)
  | [], _ => List.pairwise_singleton ..
  | y :: r, h => by
    obtain ⟨h1, h2⟩ := List.pairwise_cons.mp h
    unfold insI
    split
    · rename_i q
      exact List.pairwise_cons.mpr ⟨fun z hz => by
        rcases List.mem_cons.mp hz with e | hz
        · rw [e]; exact q
        · exact Int.le_trans q (h1 z hz), h⟩
    · rename_i q
      refine List.pairwise_cons.mpr ⟨fun z hz => ?_, insI_sorted x r h2⟩
      rcases List.mem_cons.mp ((insI_perm x r).mem_iff.mp hz) with e | hz
      · rw [e]; omega
      · exact h1 z hz
theorem srtI_sorted : ∀ r : List Int, (srtI r).Pairwise (· ≤ ·)
  | [] => List.Pairwise.nil
  | x :: r => insI_sorted x _ (srtI_sorted r)
theorem sorted_uniq : ∀ {xs ys : List Int}, xs.Perm ys → xs.Pairwise (· ≤ ·) → ys.Pairwise (· ≤ ·) → xs = ys
  | [], ys, p, _, _ => (List.nil_perm.mp p).symm
  | x :: xs, [], p, _, _ => absurd p.length_eq (by simp)
  | x :: xs, y :: ys, p, h1, h2 => by
    obtain ⟨a1, a2⟩ := List.pairwise_cons.mp h1
    obtain ⟨b1, b2⟩ := List.pairwise_cons.mp h2
    have e : x = y := by
      have m1 : x ∈ y :: ys := p.mem_iff.mp (List.mem_cons_self ..)
      have m2 : y ∈ x :: xs := p.mem_iff.mpr (List.mem_cons_self ..)
      rcases List.mem_cons.mp m1 with e | m1
      · exact e
      · rcases List.mem_cons.mp m2 with e | m2
        · exact e.symm
        · have := a1 _ m2
          have := b1 _ m1
          omega
    subst e
    rw [sorted_uniq (List.Perm.cons_inv p) a2 b2]
section
variable {K : PySem.W.Frag} {ca : CA} {ρ : List Addr} {H : Hp}
theorem Reps.pick {ds : List D} {vs : List V} (r : Reps K ca ρ H ds vs) : ∀ is : List Nat, Reps K ca ρ H (pickL ds is) (pickL vs is)
  | [] => .nil
  | i :: is => by
    unfold pickL
    rw [List.filterMap_cons, List.filterMap_cons]
    cases e : ds[i]? with
    | none =>
      have e2 : vs[i]? = none := by rw [List.getElem?_eq_none_iff] at e ⊢; rw [← r.length]; exact e
      simp only [e2]
      exact r.pick is
    | some d =>
      obtain ⟨v, e2, q⟩ := r.get e
      simp only [e2]
      exact .cons q (r.pick is)
theorem vals_pick {vs : List V} {us : List Value} (r : Vals vs us) : ∀ is : List Nat, Vals (pickL vs is) (pickL us is)
  | [] => .nil
  | i :: is => by
    unfold pickL
    rw [List.filterMap_cons, List.filterMap_cons]
    cases e : vs[i]? with
    | none =>
      have e2 : us[i]? = none := by rw [List.getElem?_eq_none_iff] at e ⊢; rw [← r.length]; exact e
      simp only [e2]
      exact vals_pick r is
    | some d =>
      obtain ⟨v, e2, q⟩ := r.get e
      simp only [e2]
      exact .cons q (vals_pick r is)
end
section
variable {g : G} {X : Cx} {E : L2.WX} {F : Fm} {st : Stt} {σ : L2.St} {H : Hp} {e : Expr} {m : M Hd} {pos : PySem.Pos}
theorem rf_neg (ha : PE X e (RE g E m)) : PE X (.UnaryOp .USub e pos) (RE g E (m1 negO m)) := (pe_un un_neg ha).weak fun σ H Q ⟨F, st, w⟩ => ⟨F, st, (RFw.bind (R := RH g) w).mono fun v H1 ⟨F1, h1, st1, l1, r1, w⟩ => by
  obtain ⟨d, rd, w⟩ := w.look_bind r1
  obtain ⟨z, ez, w⟩ := w.opt_bind
  cases d <;> simp only [negO] at ez <;> first | cases ez | skip
  cases rd.int
  exact ⟨_, rfl, w.here (Rep.int _)⟩⟩
theorem sb_step (n k : Nat) (hk : 0 < k) : sliceRange (sliceBounds none none (some (k : Int)) n).1 (sliceBounds none none (some (k : Int)) n).2.1 (sliceBounds none none (some (k : Int)) n).2.2 = stepIx n k := by
  have h : ((k : Int) > 0) := by omega
  simp only [sliceBounds, Option.getD_some, h, if_true]
  rfl
theorem pe_step {k c : Nat} {te : TE} {p1 p3 : PySem.Pos} (hk : 0 < k) (he : PE X e te) : PE X (.Subscript e (.Slice none none (some (.Constant (.int (k : Nat)) c p1)) p3) pos)
    (fun σ H Q => te σ H fun x H1 => ∃ a xs, x = .ref a ∧ SqL X.K H1 a xs ∧ ∀ p, H1 p = none → Q (.ref p) (upd H1 p (.lst (pickL xs (stepIx xs.length k))))) := by
  refine ⟨fun pins s σ H Q I h => ?_⟩
  refine Subscript_ (thn (he.run pins s σ H _ I h) fun v s1 ⟨x, H1, I1, r1, q1⟩ => ?_)
  obtain ⟨a, xs, ex, hx, q⟩ := q1
  subst ex
  cases r1
  have hst : PO X (some (.Constant (.int (k : Nat)) c p1)) (tPart (tC (.int (k : Nat)))) := po_some pe_int
  refine wpAny_Slice (thn (po_none.run pins s1 σ H1 (fun o H2 => o = none ∧ H2 = H1) I1 ⟨rfl, rfl⟩) fun vl s2 ⟨l, H2, I2, pl, el, e2⟩ => ?_)
  subst el e2
  refine thn (po_none.run pins s2 σ H2 (fun o H3 => o = none ∧ H3 = H2) I2 ⟨rfl, rfl⟩) fun vu s3 ⟨u, H3, I3, pu, eu, e3⟩ => ?_
  subst eu e3
  refine thn (hst.run pins s3 σ H3 (fun o H4 => o = some ((k : Nat) : Int) ∧ H4 = H3) I3 ⟨_, rfl, rfl, rfl⟩) fun vs s4 ⟨o, H4, I4, ps, eo, e4⟩ => ?_
  subst eo e4
  have I5 : Inv X pins σ H4 { s4 with heap := s4.heap.push { cls := .type "slice", data := .fields #[vl, vu, vs] } } := I4.kept (t' := s4.toks) fun b ob q => Heap.get?_push_of_some _ q
  obtain ⟨its, r, ht, hz⟩ := I5.list hx
  have hlen := r.length
  show wpAny (model X.prog X.w) X.A (subscriptTail e (.Slice none none (some (.Constant (.int (k : Nat)) c p1)) p3) (.ref a) (.ref s4.heap.objs.size)) (EP X pins σ Q) X.xe { s4 with heap := s4.heap.push { cls := .type "slice", data := .fields #[vl, vu, vs] } }
  refine tail_any (ops := [.ref a, .ref s4.heap.objs.size]) ht.isList.typeIs (PySem.slot_list_getitem.lookup) ?_ (by with_unfolding_all rfl)
  refine wpAny_getItem_list_slice ht.isList (Heap.IsSliceOf.new _ vl vu vs) pl pu ps (by simp; omega) ?_ (by rw [List.size_toArray]; omega)
  have ep : slicePick its.toArray none none (some (k : Int)) = (pickL its (stepIx its.length k)).toArray := by
    unfold slicePick pickL
    rw [List.size_toArray, sb_step _ _ hk]
    simp
  rw [ep, ← hlen]
  refine ⟨.ref _, _, I5.laid (t' := s4.toks) (o := .lst (pickL xs (stepIx xs.length k))) (fun b ob q => Heap.get?_push_of_some _ q) (Nat.le_refl _) ?_, rfl, q _ (I5.hok.fresh (Nat.le_refl _))⟩
  refine ⟨?_, _, 0, vals_pick r _, Heap.get?_push_size _ rfl⟩
  have := slicePick_size_le its.toArray none none (some (k : Int))
  rw [ep, List.size_toArray, List.size_toArray, ← (vals_pick r _).length, ← hlen] at this
  omega
theorem rn_step {k c : Nat} {p1 p3 : PySem.Pos} (hK : X.K = g.K) (hk : 0 < k) (he : PE X e (RE g E m)) : PE X (.Subscript e (.Slice none none (some (.Constant (.int (k : Nat)) c p1)) p3) pos) (RN g E (n1 (stepD k) m)) :=
  (pe_step hk he).weak fun σ H Q ⟨F, st, w⟩ => ⟨F, st, (RFw.bind (R := RH g) w).mono fun v H1 ⟨F1, h1, st1, l1, r1, w⟩ => by
  obtain ⟨d, rd, w⟩ := w.look_bind r1
  obtain ⟨z, ez, w⟩ := w.opt_bind
  obtain ⟨xs, e1, e2⟩ := Option.map_eq_some_iff.mp ez
  subst e2
  obtain ⟨a, vs, rfl, h, q⟩ := rd.lstO e1
  refine ⟨a, vs, rfl, by rw [hK]; exact h, fun p hp => w.fresh_end hp ⟨_, upd_same, ?_⟩⟩
  rw [← q.length]
  exact q.pick _⟩
theorem reps_ints {K : PySem.W.Frag} {ca : CA} {ρ : List Addr} {H : Hp} : ∀ ns : List Int, Reps K ca ρ H (ns.map D.int) (ns.map V.int)
  | [] => .nil
  | n :: ns => .cons (.int n) (reps_ints ns)
theorem ok_sorted : N1Ok g srtO (rSorted g.K) := by
  intro F st σ H x z v Q ok rx e q
  obtain ⟨xs, e1, e2⟩ := Option.bind_eq_some_iff.mp e
  obtain ⟨ns, e3, e4⟩ := Option.bind_eq_some_iff.mp e2
  split at e4
  · rename_i hl
    cases e4
    obtain ⟨a, vs, rfl, h, r⟩ := rx.lstO e1
    obtain rfl := ints_rep r e3
    refine ⟨a, ns, rfl, h, hl, fun ns' p pm ps hp => q p _ hp ?_⟩
    obtain rfl := sorted_uniq (pm.trans (srtI_perm ns).symm) ps (srtI_sorted ns)
    exact ⟨_, upd_same, reps_ints _⟩
  · cases e4
end
end Rf

set_option Elab.async false
set_option linter.all false
set_option maxRecDepth 100000
set_option maxHeartbeats 2000000
/-! Rf, part z8: a list comprehension whose element leans on the frame around it (a lambda of that frame is called in the block). -/
namespace Rf
open PySem PySem.Spec PyProof.Rows L2

/-- the frame around the block, as it stood when the block began -/
def InBlk (X : Cx) (σ : L2.St) (s : Shared) (H : Hp) (fp : List Addr) : Prop := ∃ pins, Inv X pins σ H s ∧ ∀ b ∈ fp, FpOk X pins H b
section
variable {X : Cx} {σ σ' : L2.St} {s s' : Shared} {H H' : Hp} {fp : List Addr} {scope : Scope} {ce : Env} {pins pins' : List (Addr × Obj)}
theorem inv_back (IB : InBlk X σ s H fp) (I : Inv (X.blk s H scope ce fp) pins' σ' H' s') : ∃ pins, Inv X pins σ H' s' := by
  obtain ⟨pins, I0, f⟩ := IB
  exact ⟨pins, I0.call' (ch := fp) I.os I.base I.hok I.bare fun b hb => let ⟨_, u2, _, u4, u5, u6⟩ := f b hb; ⟨u4, u2, u5, u6⟩⟩
theorem inv_slots (I : Inv X pins σ H s) (hl : σ'.length = σ.length) (h : ∀ (i : Nat) (x : Str) (v : V), X.N[i]? = some x → Vis X.env.scope x → σ'[i]? = some (some v) → σ[i]? = some (some v)) : Inv X pins σ' H s :=
  ⟨I.ok, I.os, I.bare, I.base, let ⟨m, hn, hq⟩ := I.loc; ⟨m, hn, fun i x v q1 q2 q3 => hq i x v q1 (h i x v q1 q3 q2) q3⟩, I.cell, I.free, I.freeC, I.pin, I.hok, hl.trans I.len⟩
/-- the block's own names are no names of the frame around it -/
def ownOut (sc : Scope) (own : List (Str × Nat)) : Bool := own.all fun p => (sc.names.lookup p.1).isNone
theorem inv_home {own : List (Str × Nat)} (IB : InBlk X σ s H fp) (I : Inv (X.blk s H scope ce fp) pins' σ' H' s') (ok : BlkOk X.N X.env.scope scope own) (ho : ownOut X.env.scope own = true)
    (hw : L2.wipe σ' (own.map (·.2)) = L2.wipe σ (own.map (·.2))) : ∃ pins, Inv X pins σ' H' s' := by
  obtain ⟨ps, I0⟩ := inv_back IB I
  refine ⟨ps, inv_slots I0 (by rw [← L2.wipe_length σ' (own.map (·.2)), hw, L2.wipe_length]) fun i x v q1 q2 q3 => ?_⟩
  by_cases hi : i ∈ own.map (·.2)
  · obtain ⟨p, hp, rfl⟩ := List.mem_map.mp hi
    have z := ok.ix p hp
    rw [q1] at z
    cases z
    have z2 := List.all_eq_true.mp ho p hp
    simp only [Option.isNone_iff_eq_none] at z2
    rcases q2 with k | k | k <;> (rw [z2] at k; cases k)
  · have z1 := wipe_get σ' (own.map (·.2)) i
    have z2 := wipe_get σ (own.map (·.2)) i
    rw [if_neg (fun z => hi z.1)] at z1 z2
    rw [← z2, ← hw, z1]
    exact q3
/-- as a value, the element's reading by the frame at the block's start -/
theorem pe_lcw {elt tg iter : Expr} {own : List (Str × Nat)} {pos : PySem.Pos} {wi : TI} {tgt : TG} {te : TE} (hc : X.calm = true) (hN : X.N.Nodup) (hi : PI X tg iter wi) (ok : BlkOk X.N X.env.scope scope own)
    (hg : ∀ (s : Shared) (H : Hp) (C : Addr) (cl : List (Str × Addr)) (fp : List Addr), PG (X.blk s H scope (compEnvC scope cl C X.env) fp) tg tgt)
    (he : ∀ (σ : L2.St) (s : Shared) (H : Hp) (C : Addr) (cl : List (Str × Addr)) (fp : List Addr), InBlk X σ s H fp → PE (X.blk s H scope (compEnvC scope cl C X.env) fp) elt (fun σ2 H2 Q => L2.wipe σ2 (own.map (·.2)) = L2.wipe σ (own.map (·.2)) ∧ te σ2 H2 Q))
    (hs : ∀ x, foldedSetIterable iter X.env x = pure x) : PE X (.ListComp elt [⟨tg, iter, [], 0⟩] scope pos) (tLc wi tgt tYes te (own.map (·.2))) := by
  refine ⟨fun pins s σ H Q I h => ?_⟩
  rw [eval_ListComp]
  have clos : ∀ y ∈ scope.names, y.2 = .free → ∃ c, X.env.cells.lookup y.1 = some c := fun y hy q => I.ok.has _ (ok.free y hy q)
  refine wpAny_comprehension_free (use := none) rfl hs (closure_ok clos) ok.kind (fun y hy q => by rw [ok.uniq y hy, q]) (thn (hi.run pins s σ H _ I h) fun xv s1 hx => thn hx fun itv s2 h2 => ?_)
  obtain ⟨it, fp, tn, J, H2, rfl, I2, T, st2, f2, q⟩ := h2
  refine wpAny_newObj_type (newEnv_comp ?_) (by show 0 ≤ sizeLine; decide)
  have dn : H2 s2.heap.objs.size = none := I2.hok.fresh (Nat.le_refl _)
  obtain ⟨W, ⟨m0, w0⟩, turn⟩ := q _ dn
  have I3 : Inv X pins σ (L2.upd H2 s2.heap.objs.size (.lst [])) { s2 with heap := s2.heap.push { cls := .type "list", data := .seq ([] : List Value).toArray } } :=
    I2.laid (t' := s2.toks) (fun b o q => Heap.get?_push_of_some _ q) (Nat.le_refl _) ⟨Nat.zero_le _, [], 0, .nil, Heap.get?_push_size _ rfl⟩
  have f3 : ∀ b ∈ fp, FpOk X pins (L2.upd H2 s2.heap.objs.size (.lst [])) b ∧ b < (s2.heap.push { cls := .type "list", data := .seq ([] : List Value).toArray }).objs.size := fun b hb => by
    obtain ⟨o, z, _⟩ := T.obj _ _ st2 b hb
    have lt := Heap.lt_size z
    exact ⟨⟨(upd_ne (Nat.ne_of_lt lt)).trans (f2 b hb).1, (f2 b hb).2⟩, by rw [Heap.size_push]; exact Nat.lt_succ_of_lt lt⟩
  have st3 : tn 0 (s2.heap.push { cls := .type "list", data := .seq ([] : List Value).toArray }) := T.keep _ _ _ st2 fun b _ o q => Heap.get?_push_of_some _ q
  generalize s2.heap.objs.size = D at *
  generalize L2.upd H2 D (.lst []) = H3 at *
  generalize hs3 : ({ s2 with heap := s2.heap.push { cls := .type "list", data := .seq ([] : List Value).toArray } } : Shared) = s3 at *
  have h3 : s2.heap.push { cls := .type "list", data := .seq ([] : List Value).toArray } = s3.heap := by rw [← hs3]
  rw [h3] at f3 st3
  have I4 := block_start I3 ok hN f3
  have IB : InBlk X σ s3 H3 fp := ⟨pins, I3, fun b hb => (f3 b hb).1⟩
  have pg := hg s3 H3 s3.heap.objs.size (cellsFrom (s3.heap.objs.size + 1) scope.names (cloFrom X.env.cells scope.names [])) fp
  have pe := he σ s3 H3 s3.heap.objs.size (cellsFrom (s3.heap.objs.size + 1) scope.names (cloFrom X.env.cells scope.names [])) fp IB
  show codeAny _ _ (.compStart (.ListComp elt [⟨tg, iter, [], 0⟩] scope pos) 0 (.ref it) (.ref D) (compEnvC scope (cellsFrom (s3.heap.objs.size + 1) scope.names (cloFrom X.env.cells scope.names [])) s3.heap.objs.size X.env)) (compPost (model X.prog X.w) X.A X.xe none _ (.ref D) s3.heap.objs.size) { s3 with heap := pushCells (s3.heap.push { cls := .type "dict", data := .dict #[] }) scope.names }
  generalize hce : compEnvC scope (cellsFrom (s3.heap.objs.size + 1) scope.names (cloFrom X.env.cells scope.names [])) s3.heap.objs.size X.env = ce at I4 pg pe ⊢
  have cL : ce.locals = s3.heap.objs.size := by subst hce; rfl
  generalize hs4 : ({ s3 with heap := pushCells (s3.heap.push { cls := .type "dict", data := .dict #[] }) scope.names } : Shared) = s4 at I4 ⊢
  have st4 : tn 0 s4.heap := T.keep _ _ _ st3 fun b _ o q => by rw [← hs4]; exact pushCells_keeps _ _ _ _ (Heap.get?_push_of_some _ q)
  have stat : ∀ {τ : L2.St} {G : Hp} {r : Shared}, Inv (X.blk s3 H3 scope ce fp) [] τ G r → (∀ b ∈ fp, G b = none) → ∀ b ∈ fp, FpOk (X.blk s3 H3 scope ce fp) [] G b := fun {τ G r} J' hn b hb =>
    ⟨hn b hb, (J'.ok.exf b hb).1, J'.ok.exfs b hb, .inl hb, fun x c q => (J'.ok.exf b hb).2 x c q, fun p hp => absurd (show p ∈ ([] : List (Addr × Obj)) ++ [] from hp) (by simp)⟩
  have loop : codeAny (model X.prog X.w) X.A (.compLoop (.ListComp elt [⟨tg, iter, [], 0⟩] scope pos) 0 (.ref it) (.ref D) ce) (compPost (model X.prog X.w) X.A X.xe none (EP X pins σ Q) (.ref D) s3.heap.objs.size) s4 := by
    refine compLoop_any (fun n s' => ∃ i H', Inv (X.blk s3 H3 scope ce fp) [] (L2.wipe σ (own.map (·.2))) H' s' ∧ tn i s'.heap ∧ (∀ b ∈ fp, H' b = none) ∧ W i n H') ?_ m0 ⟨0, H3, I4, st4, fun b hb => (f3 b hb).1.1, w0⟩
    rintro n s5 ⟨i, H5, I5, st5, n5, w5⟩
    rcases turn i n H5 w5 with ⟨stop, qq⟩ | ⟨go, Nx, hNx, step⟩
    · refine thnF (T.done (X.blk s3 H3 scope ce fp) rfl rfl rfl hc i [] s5 _ H5 (fun _ _ => False) I5 (stat I5 n5) st5 stop) fun r s6 ⟨hr, I6⟩ => ?_
      subst hr
      have nC : H5 s3.heap.objs.size = none := cL ▸ (show H5 ce.locals = none from I6.free)
      obtain ⟨m, hn, _⟩ := I6.loc
      have hn : s6.heap.Ns ce.locals m := hn
      rw [cL] at hn
      have I7 : Inv X pins σ H5 s6 := I3.call' (ch := fp) I6.os I6.base I6.hok I6.bare fun b hb => let ⟨_, u2, _, u4, u5, u6⟩ := (f3 b hb).1; ⟨u4, u2, u5, u6⟩
      refine ⟨m, hn, fun h'' sb => ?_⟩
      obtain ⟨v0, v1, v2, v3, v4, v5⟩ := I3.fpOk (Nat.le_refl _) nC
      exact ⟨.ref D, H5, I7.turned (t' := s6.toks) (fun b o hb q => (sb.2 b hb).trans q) v0 v1 v3 v4 v5, rfl, qq⟩
    · refine thnF (T.item (X.blk s3 H3 scope ce fp) rfl rfl rfl hc i [] s5 _ H5 (fun _ _ => False) I5 (stat I5 n5) st5 go) fun r s6 ⟨u, hr, h6⟩ => ?_
      subst hr
      refine thnF h6 fun _ s7 ⟨x, H7, I7, r7, y7, st7, n7⟩ => ?_
      have I7' := I7.pinned (stat I7 n7) (T.obj _ _ st7)
      refine thnF (pg.run _ s7 _ H7 x u _ I7' r7 (step x H7 y7)) fun _ s8 ⟨σ8, H8, I8, hw8, q8⟩ => ?_
      refine thnF ((pts_nil (X := X.blk s3 H3 scope ce fp)).run _ s8 σ8 H8 _ I8 q8) fun b s9 ⟨H9, I9, q9⟩ => ?_
      have fin : ∀ {s' : Shared} {H' : Hp}, Inv (X.blk s3 H3 scope ce fp) ([] ++ pinsAt fp s7.heap) σ8 H' s' → Nx H' → ∃ m, m < n ∧ ∃ i H', Inv (X.blk s3 H3 scope ce fp) [] (L2.wipe σ (own.map (·.2))) H' s' ∧ tn i s'.heap ∧ (∀ b ∈ fp, H' b = none) ∧ W i m H' := fun {s' H'} I' nx => by
        obtain ⟨m', hm, w'⟩ := hNx H' nx
        have pin' : ∀ b ∈ fp, ∀ o, s7.heap.get? b = some o → s'.heap.get? b = some o ∧ H' b = none := fun b hb o q =>
          let z := I'.pin (b, o) (List.mem_append_right _ (List.mem_append_right _ (mem_pinsAt hb q)))
          ⟨z.1, z.2.1⟩
        refine ⟨m', hm, i + 1, H', (I'.unpinned (pins := [])).weak (by rw [← hw8, wipe_length]) (fun j v q => ?_), T.keep _ _ _ st7 fun b hb o q => (pin' b hb o q).1, fun b hb => ?_, w'⟩
        · rw [← hw8] at q
          exact (wipe_some q).1
        · obtain ⟨o, z, _⟩ := T.obj _ _ st7 b hb
          exact (pin' b hb o z).2
      cases b with
      | false =>
        simp only [Bool.false_eq_true, if_false] at q9 ⊢
        exact fin I9 q9
      | true =>
        simp only [if_true] at q9 ⊢
        refine thnF (pe.run _ s9 σ8 H9 _ I9 ⟨hw8, q9⟩) fun z s10 ⟨yv, H10, I10, r10, acc, hD10, hz10, nx⟩ => ?_
        exact app_ok (X := X.blk s3 H3 scope ce fp) I10 hD10 hz10 r10 fun s11 I11 => fin I11 nx
  exact codeAny_compStart_list loop (T.self X.A 0 _ _ _ st4 loop)
end
end Rf

set_option Elab.async false
set_option linter.all false
set_option maxRecDepth 100000
set_option maxHeartbeats 2000000
/-! Rf, part z9: a told lambda called in a comprehension's block: [x(e) == y for .. in ..], the lambdas made in the frame around. -/
namespace Rf
open PySem PySem.Spec PyProof.Rows L2
section
variable {g : G} {Y : Cx} {E : WX} {sub : Nat → Nat → Option Bool}
/-- the slots but the block's own stand as at the block's start -/
def SameS (σ0 : L2.St) (vs : List Nat) (σ : L2.St) : Prop := L2.wipe σ vs = L2.wipe σ0 vs
theorem rf_toldB {σ0 : L2.St} {s0 : Shared} {H0 : Hp} {fp : List Addr} {scopeB : Scope} {ce : Env} {own : List (Str × Nat)} {lt : Nat → Option LamT} {lb : Nat → M Hd} {an : List (Nat × Nat × HE)} {m : M Hd} {E : WX} {x a r : Str} {gf : Addr} {k j : Nat} {pg : Arguments} {sg : Scope} {dV kV doc pm cdv ct oc : Value} {ann od : Option Addr} {osl : Array (Option Value)} {Ng : List Str} {e : Expr} {h₀ : ExceptHandler} {hds : List ExceptHandler}
    {p pos p1 p2 p3 p8 p9 p10 : PySem.Pos} (IB : InBlk Y σ0 s0 H0 fp) (ok : BlkOk Y.N Y.env.scope scopeB own) (ho : ownOut Y.env.scope own = true) (hK : Y.K = g.K) (hl : LamsOk g Y.env lt) (L : ∀ n t, lt n = some t → LamX.LamS Y.env.scope t.scope)
    (hbind : ∀ n t, lt n = some t → ∀ (q : Str) (cl : List (Str × Addr)) (pm cv ctv : Value), bindArgs (PySem.W.kla_fn "<lambda>" q t.params t.body t.scope cl pm cv ctv) ⟨[], []⟩ = pure [])
    (hg : Gl (Y.blk s0 H0 scopeB ce fp) x) (hm : Y.mg x = some (.ref gf)) (hk : PySem.W.keepIn Y.K (.ref gf) = true) (hdb : (x == ("__debug__" : Str)) = false)
    (lk : Y.K.lookup gf = some ⟨oc, od, .func (PySem.W.fnOf x x pg [.Try [.Expr (.Call (.Name a p1) [] [] p2) p3] (h₀ :: hds) [] [] p8, .Return (some (.Constant (.str r) j p9)) p10] sg dV kV doc pm ann cdv ct), osl⟩) (hcg : PySem.W.codeIn Y.K cdv x = true)
    (hb : L2.Binds Y.K (PySem.W.fnOf x x pg [.Try [.Expr (.Call (.Name a p1) [] [] p2) p3] (h₀ :: hds) [] [] p8, .Return (some (.Constant (.str r) j p9)) p10] sg dV kV doc pm ann cdv ct) [a] []) (Sg : FnScope Ng [a] sg) (hN0 : Ng[0]? = some a) (hva : Vis sg a)
    (hd : (a == ("__debug__" : Str)) = false) (hcd : (a == ("__classdict__" : Str)) = false) (hAns : ∀ s H, AnsOk g (ZC Y Ng x sg gf cdv s H) (h₀ :: hds) an) (hsub : XSub g sub) (hr : Room (k + 2) Y.A)
    (hbody : ∀ n t, lt n = some t → ∀ (f c' : Addr) (A : Around) (outer : List Env) (s : Shared) (H : Hp) (E : XK), Room k (A.deeper (LamX.lamEnv Y t.scope s.heap.objs.size f c')) → PE (LamX.lamCx Y A outer s H E t.scope f c') t.body (RE g (fun cls d _ H' => E cls d H') (lb n)))
    (hlt : ∀ n, (lt n).isSome = false → lb n = bad)
    (he : PE (Y.blk s0 H0 scopeB ce fp) e (RE g E m)) (hst : starEach [e] ce = (false, eval e ce) :: starEach [] ce) (hpl : (backTo pos (starEach [] ce)).any (·.1) = false) :
    PE (Y.blk s0 H0 scopeB ce fp) (.Call (.Name x p) [e] [] pos) (fun σ H Q => SameS σ0 (own.map (·.2)) σ ∧ RE g E (mTold sub lb an (some (.str r)) m) σ H Q) := by
  refine ⟨fun pins s σ H Q I ⟨hw, F, st, w⟩ => ?_⟩
  refine wpAny_Call_Name_kw (ld_glob I hg hm ?_ hdb)
  refine PySem.W.callWith_K (h₀ := Y.base) I.ok.mod.kin hk ?_ hst hpl
  have w1 := RFw.bind (R := RH g) w
  refine thn ((pa_cons he pa_nil hst).run pos pins s σ H (fun vs H1 => ∃ v, vs = [v] ∧ ∃ F1 h1 st1, Lk F H F1 H1 ∧ RH g F1 σ H1 h1 v ∧ RFw g (RH g) E (bnd (toD false h1) (toldK sub lb an (some (.str r)))) F1 st1 σ H1 Q) I ⟨F, st, w1.mono fun b H1 q => ⟨b, rfl, q⟩⟩) fun us s' ⟨vs, H1, I1, r1, v, ev, F1, h1, st1, l1, rh, w⟩ => ⟨I1.kIn, ?_⟩
  subst ev
  obtain ⟨pJ, J⟩ := inv_home IB I1 ok ho hw
  obtain ⟨F2, st2, d, l2, rd, w⟩ := w.toD_bind rh
  cases d <;> first | exact w.2.elim | skip
  rename_i n
  cases rd with
  | @lam _ f c' hf hc =>
    obtain ⟨ok2, w⟩ := w
    unfold toldK at w
    dsimp only at w
    have hf' := (hide_sub _ _).b.ext hf
    have hc' := (hide_sub _ _).b.ext hc
    cases hn : lt n with
    | none =>
      rw [hlt n (by rw [hn]; rfl)] at w
      exact w.elim
    | some t =>
      cases r1 with
      | @cons _ u _ us' ru rn =>
        cases rn
        obtain rfl : u = Value.ref f := ru
        have rc : codeAny (model Y.prog Y.w) Y.A (.call (.ref gf) ⟨[.ref f], []⟩) (CR C8.CX0 Y.stack Y.prog Y.w H1 s' Q C8.E0) s' := by
          refine LamX.run_ofS (N := Ng) (ps := [a]) (us := [.ref f]) (vs := [.ref f]) lk hcg Sg hr J.env0 (hb s' [.ref f] I1.kIn rfl) (.cons rfl .nil) rfl fun hr' => ?_
          obtain ⟨l', k1, k2⟩ := ans_hcs (sub := sub) (hAns s' H1)
          refine ⟨_, pss_cons (ps_try_mix (tb := fun W => fun D0 σZ HZ => ∃ n t f c', lt n = some t ∧ σZ[0]? = some (some (.ref f)) ∧ HZ f = some (.ext (g.ca.lam n f c')) ∧ HZ c' = some (.ext (g.ca.code n c')) ∧ RE g (fun cls d _ H' => WE W σZ cls d H') (lb n) σ HZ fun v H' => D0.nx σZ H') rfl rfl Sg.nd LamX.takes0 (fun W pn xe tk _ => ?_) k1) (pss_one (ps_ret pe_str)), ?_⟩
          · have act := pe_act2 (g := g) (lt := lt) (tb := fun n σZ E => RE g (fun cls d _ H' => E cls d H') (lb n)) (p1 := p1) (p2 := p2) J hl L hbind tk hr' (fun n t hn f c' A outer s H σZ hr2 => hbody n t hn f c' A outer s H _ hr2) hN0 hva hd hcd
            exact pss_one ((ps_expr act rfl).weak fun D0 σZ HZ q => q)
          · refine ⟨n, t, f, c', hn, start_0, hf', hc', F2, st2, ok2, ?_⟩
            cases q : lb n st2 with
            | ok h' s3 =>
              simp only [q] at w
              intro F3 v3 H3 l3 ok3 r3
              exact w F3 (.str r) H3 l3 ok3 (.str r)
            | exc c fs s3 =>
              simp only [q] at w
              intro F3 H3 dx l3 ok3 x3
              cases hz : hansw sub an c fs with
              | none => simp only [hz] at w; exact w.elim
              | some z =>
                simp only [hz] at w
                exact k2 _ c fs s3 F3 σ _ H3 dx Y.K _ z hK hsub ok3 x3 (start_len hN0) hz fun F4 H4 v4 l4 ok4 r4 => w F4 v4 H4 (l3.trans l4) ok4 r4
            | bad => simp only [q] at w; exact w.elim
        refine wpAny_call (codeAny_mono rc fun rr s2 hq => ?_)
        cases rr with
        | error e => exact (show False from hq).elim
        | ok fl =>
          cases fl with
          | ret u => exact I1.after hq
          | next => exact False.elim hq
          | brk => exact False.elim hq
          | cont => exact False.elim hq
variable {X : Cx} {a b e : Expr} {ma mb : M Hd} {pos : PySem.Pos}
theorem rf_cmpS {pS : L2.St → Prop} {op : CmpOp} {r : R2} {f : D → D → Option D} (ho : OpR X (compareOp op) r) (hr : OpOk g f r) (ha : PE X a (fun σ H Q => pS σ ∧ RE g E ma σ H Q)) (hb : PE X b (RE g E mb)) (hm : behindInMarks op b = false) :
    PE X (.Compare a [op] [b] pos) (fun σ H Q => pS σ ∧ RE g E (mBin f ma mb) σ H Q) :=
  (pe_cmpR ho ha hb hm).weak fun σ H Q ⟨q, h⟩ => ⟨q, rf_op2 hr h⟩
variable {tg iter elt : Expr} {scope : Scope} {own : List (Str × Nat)} {mi : M It} {ts : List Nat} {t : Tg} {me : M Hd}
theorem rn_lcw (hc : X.calm = true) (hN : X.N.Nodup) (hi : PI X tg iter (RI g E mi)) (ok : BlkOk X.N X.env.scope scope own) (hts : ∀ j, j ∈ ts → j ∈ own.map (·.2))
    (hg : ∀ (s : Shared) (H : Hp) (C : Addr) (cl : List (Str × Addr)) (fp : List Addr), PG (X.blk s H scope (compEnvC scope cl C X.env) fp) tg (RG g ts t))
    (he : ∀ (σ : L2.St) (s : Shared) (H : Hp) (C : Addr) (cl : List (Str × Addr)) (fp : List Addr), InBlk X σ s H fp → PE (X.blk s H scope (compEnvC scope cl C X.env) fp) elt (fun σ2 H2 Q => SameS σ (own.map (·.2)) σ2 ∧ RE g Ex0 me σ2 H2 Q)) (hs : ∀ x, foldedSetIterable iter X.env x = pure x) :
    PE X (.ListComp elt [⟨tg, iter, [], 0⟩] scope pos) (RN g E (nLc mi t mYes me (own.map (·.2)))) := (pe_lcw hc hN hi ok hg he hs).weak fun σ H Q ⟨F, st, w⟩ =>
  ⟨F, st, (RFw.bind (R := RIt g) w).mono fun J' H1 ⟨F1, J, st1, l1, its, w⟩ D hD => by
    obtain ⟨W, w0, w1⟩ := lc_core hts w.1 its hD w.2
    refine ⟨W, w0, fun i m H hW => (w1 i m H hW).imp id fun ⟨q1, Nx, q2, q3⟩ => ⟨q1, Nx, q2, fun x H' y => ?_⟩⟩
    obtain ⟨F2, s2, d, s3, z1, z2, z3, z4⟩ := q3 x H' y
    refine ⟨F2, s2, d, s3, z1, z2, z3, fun σ' k1 k2 k3 => ?_⟩
    obtain ⟨u1, F4, s4, u2, u3⟩ := z4 σ' k1 k2 k3
    exact ⟨u1, u3 F4 true _ Lk.refl u2 rfl⟩⟩
end
end Rf

set_option Elab.async false
set_option linter.all false
set_option maxRecDepth 100000
set_option maxHeartbeats 2000000
/-! Rf, part z10: bundles for the printed walks; a comprehension stored in a local; the law's own def. -/
namespace Rf
open PySem PySem.Spec PyProof.Rows L2
/-- x, a def that keeps its promise -/
def Cal (g : G) (P : Program) (w : World) (mg : Str → Option Value) (base : Heap) (x : Str) (k n : Nat) (run : List D → List D → OutC) : Prop :=
  ∃ f fd ps, FnOk P w g.K mg base (L2.CX P w) k f fd ps (spF g n run) ∧ mg x = some (.ref f) ∧ PySem.W.keepIn g.K (.ref f) = true ∧ Binds g.K fd ps []
/-- x, a class whose __init__ keeps its promise -/
def Mkr (g : G) (P : Program) (w : World) (mg : Str → Option Value) (base : Heap) (x : Str) (c k n : Nat) (run : List D → List D → OutI) : Prop :=
  ∃ f fd ps, Mk g.K (g.ca.cl c) f ∧ FnOk P w g.K mg base (L2.CX P w) k f fd ps (spI g c n run) ∧ Binds g.K fd ps [] ∧ mg x = some (.ref (g.ca.cl c))
/-- x, an exception's class -/
def Rsr (g : G) (P : Program) (w : World) (mg : Str → Option Value) (base : Heap) (x : Str) (c k : Nat) (fl : List Str) : Prop :=
  ∃ fI fd ps, OexC g.K (g.ca.cl c) ∧ PySem.W.findIn g.K (.ref (g.ca.cl c)) "__init__" = some (some (.ref fI)) ∧ PySem.W.typeIn g.K (.ref fI) = some (.type "function") ∧
    FnOk P w g.K mg base (L2.CX P w) k fI fd ps (spX (g.ca.cl c) fl) ∧ Binds g.K fd ps [] ∧ mg x = some (.ref (g.ca.cl c))
/-- the methods of that name -/
def Mth (g : G) (P : Program) (w : World) (mg : Str → Option Value) (base : Heap) (oc : Oc) (k : Nat) (name : Str) : Prop :=
  ∀ c i, g.meth c name = some i → ∃ j fd ps, j ≤ k ∧ FnOk P w g.K mg base (L2.CX P w) j (g.fa i) fd ps (spF g (g.fn i) (oc i)) ∧ PySem.W.keepIn g.K (.ref (g.fa i)) = true ∧ Binds g.K fd ps []
section
variable {g : G} {X : Cx} {E : L2.WX} {e a b : Expr} {es : List Expr} {m : M (List D)} {ma mb : M Hd} {x : Str} {p pos pos2 : PySem.Pos} {k n c : Nat}
theorem rf_cal {run : List D → List D → OutC} (hK : X.K = g.K) (C : Cal g X.prog X.w X.mg X.base x k n run) (tk : Takes X E) (hr : Room k X.A) (hg : Gl X x) (ha : PA X (e :: es) (RA g E m)) (hdb : (x == ("__debug__" : Str)) = false)
    (he : starEach (e :: es) X.env = (false, eval e X.env) :: starEach es X.env) (hpl : (backTo pos (starEach es X.env)).any (·.1) = false) : PE X (.Call (.Name x p) (e :: es) [] pos) (RE g E (mCall (fun _ => run) 0 n m)) := by
  obtain ⟨f, fd, ps, F, h1, h2, h3⟩ := C
  rw [← hK] at F h2 h3
  exact rf_call (oc := fun _ => run) (i := 0) F tk hr hg h1 h2 h3 ha hdb he hpl
theorem rn_mk {run : List D → List D → OutI} (hK : X.K = g.K) (C : Mkr g X.prog X.w X.mg X.base x c k n run) (tk : Takes X E) (hr : Room (k + 1) X.A) (hg : Gl X x) (ha : PA X (e :: es) (RA g E m)) (hdb : (x == ("__debug__" : Str)) = false)
    (he : starEach (e :: es) X.env = (false, eval e X.env) :: starEach es X.env) (hpl : (backTo pos (starEach es X.env)).any (·.1) = false) : PE X (.Call (.Name x p) (e :: es) [] pos) (RN g E (nNew (fun _ => run) c n m)) := by
  obtain ⟨f, fd, ps, M, F, h2, h3⟩ := C
  rw [← hK] at M F h2
  exact rn_new (oi := fun _ => run) (k := k) ⟨f, k, fd, ps, Nat.le_refl _, M, F, h2⟩ hr hg h3 tk ha hdb he hpl
theorem rs_rsr {fl : List Str} (hK : X.K = g.K) (hc : X.calm = true) (C : Rsr g X.prog X.w X.mg X.base x c k fl) (tk : Takes X E) (hr : Room (k + 1) X.A) (hg : Gl X x) (ha : PA X (e :: es) (RA g E m)) (hdb : (x == ("__debug__" : Str)) = false)
    (he : starEach (e :: es) X.env = (false, eval e X.env) :: starEach es X.env) (hpl : (backTo pos (starEach es X.env)).any (·.1) = false) : PS X (.Raise (some (.Call (.Name x p) (e :: es) [] pos)) none pos2) (RS g E (sRaise c fl m)) := by
  obtain ⟨fI, fd, ps, T, h1, h2, F, h3, h4⟩ := C
  rw [← hK] at T h1 h2 F h3
  exact rs_raise hc tk T h1 h2 F hr h3 passX0 hg h4 ha hdb he hpl
theorem rf_eqIT {oc : Oc} (hK : X.K = g.K) (C : ClsF g) (hF : ∀ c i, g.meth c "__eq__" = some i → HasF g X oc k i) (hr : Room (k + 1) X.A) {r0 : R2} (hop : OpR X (compareOp .Eq) r0) (h0 : OpOk g eqvD r0) (ha : PE X a (RE g E ma)) (hb : PE X b (RE g E mb)) (hm : behindInMarks .Eq b = false) :
    PT X (.Compare a [.Eq] [b] pos) (RT g E (mTB (mCmpI g.toGd oc false ma mb))) := (pt_cmpR (hop.or (op_cmpI false hK C hF hr)) ha hb hm).weak fun _ _ _ h => tb_weak (fun _ _ _ h => cmpI_go (neg := false) h0 h) h
theorem rf_neIT {oc : Oc} (hK : X.K = g.K) (C : ClsF g) (hF : ∀ c i, g.meth c "__eq__" = some i → HasF g X oc k i) (hr : Room (k + 1) X.A) {r0 : R2} (hop : OpR X (compareOp .NotEq) r0) (h0 : OpOk g nevD r0) (ha : PE X a (RE g E ma)) (hb : PE X b (RE g E mb)) (hm : behindInMarks .NotEq b = false) :
    PT X (.Compare a [.NotEq] [b] pos) (RT g E (mTB (mCmpI g.toGd oc true ma mb))) := (pt_cmpR (hop.or (op_cmpI true hK C hF hr)) ha hb hm).weak fun _ _ _ h => tb_weak (fun _ _ _ h => cmpI_go (neg := true) h0 h) h
theorem rts_one {mc : M Bool} (h : PT X e (RT g E mc)) : PTs X [e] (RT g E mc) := pts_one h
theorem tys_nil : PA X [] (tTys (([] : List Ty).map g.tV)) := pa_nil
theorem tys_cons {q : Ty} {qs : List Ty} (h : PE X e (tC (g.tV q))) (hr : PA X es (tTys (qs.map g.tV))) (hst : starEach (e :: es) X.env = (false, eval e X.env) :: starEach es X.env) : PA X (e :: es) (tTys ((q :: qs).map g.tV)) := (pa_cons h hr hst).weak fun _ _ _ h => h
theorem rf_clsv {c : Nat} (hg : Gl X x) (hm : X.mg x = some (.ref (g.ca.cl c))) (hd : (x == ("__debug__" : Str)) = false) : PE X (.Name x pos) (tC (g.tV (.c c))) := pe_glob hg hm (show RelV (.ref (g.ca.cl c)) (.ref (g.ca.cl c)) from rfl) hd
/-- y = [..], the model's own way -/
theorem rs_setLc {tg iter elt : Expr} {ifs : List Expr} {scope : Scope} {own : List (Str × Nat)} {mi : M It} {ts : List Nat} {t : Tg} {mc : M Bool} {me : M Hd} {i : Nat} {y : Str} {py spos : PySem.Pos} (hc : X.calm = true) (hN : X.N.Nodup) (hy : X.N[i]? = some y) (hyl : X.env.scope.names.lookup y = some .local)
    (hsw : swapsWith (.ListComp elt [⟨tg, iter, ifs, 0⟩] scope pos) (some (.Name y py)) spos.line X.env = pure true) (hi : PI X tg iter (RI g E mi)) (ok : BlkOk X.N X.env.scope scope own) (hts : ∀ j, j ∈ ts → j ∈ own.map (·.2))
    (hg : ∀ (s : Shared) (H : Hp) (C : Addr) (cl : List (Str × Addr)) (fp : List Addr), PG (X.blk s H scope (compEnvC scope cl C X.env) fp) tg (RG g ts t))
    (ht : ∀ (s : Shared) (H : Hp) (C : Addr) (cl : List (Str × Addr)) (fp : List Addr), PTs (X.blk s H scope (compEnvC scope cl C X.env) fp) ifs (RT g Ex0 mc))
    (he : ∀ (s : Shared) (H : Hp) (C : Addr) (cl : List (Str × Addr)) (fp : List Addr), PE (X.blk s H scope (compEnvC scope cl C X.env) fp) elt (RE g Ex0 me)) (hs : ∀ x, foldedSetIterable iter X.env x = pure x) :
    PS X (.Assign [.Name y py] (.ListComp elt [⟨tg, iter, ifs, 0⟩] scope pos) spos) (RS g E (sSet i (mVal (nLc mi t mc me (own.map (·.2)))))) :=
  (ps_setLc hc hN hy hyl hsw hi ok hg ht he hs).weak fun D0 σ H ⟨F, st, h⟩ => by
    have q : RE g E (mVal (nLc mi t mc me (own.map (·.2)))) σ H fun v H1 => gName i v σ H1 D0.nx := ⟨F, st, (RSw.m_bind (R := RH g) h).mono fun v H1 ⟨F1, h1, st1, l, r, ok, h⟩ => by
      cases q : toD false h1 st1 with
      | ok d s' =>
        simp only [q] at h
        obtain ⟨F2, l2, ok2, r2⟩ := toD_ok ok r q
        exact h F2 _ H1 l2.s (ok2.setv i r2)
      | exc c fs s' => cases h1 <;> simp only [toD, reduceCtorEq] at q <;> (repeat' split at q) <;> simp at q
      | bad => simp only [q] at h; exact h.elim⟩
    obtain ⟨F, st, w⟩ := q
    exact ⟨F, st, (RFw.bind (R := RIt g) w.val_of).mono fun J' H1 ⟨F1, J, st1, l1, its, w⟩ D hD => lc_core hts w.1 its hD w.2⟩
end

/-! ### the law's own def -/
def lawCA (cl : Nat → Addr) (lt : Nat → Option LamT) (env : Env) (P : Addr) : CA where
  cl := cl
  lam n f c' := match lt n with
    | some t => LamP env t f c'
    | none => fun _ => False
  code _ c' := LamC (env.qual ++ "<lambda>") c'
  T := [(P, env.qual ++ "<lambda>")]
def mkG (gd : Gd) (K : PySem.W.Frag) (ca : CA) (fa : Nat → Addr) : G := { gd with K := K, ca := ca, fa := fa }
theorem law_lams {gd : Gd} {K : PySem.W.Frag} {cl fa : Nat → Addr} {lt : Nat → Option LamT} {env : Env} {P : Addr} : LamsOk (mkG gd K (lawCA cl lt env P) fa) env lt := fun n t h => ⟨fun f c' => by
  show (match lt n with | some t => LamP env t f c' | none => fun _ => False) = LamP env t f c'
  rw [h], fun _ => rfl⟩
def spLw (K : PySem.W.Frag) (P : Addr) : Sp := fun vs H Q _ => ∃ (a : Addr) (ns : List Int), vs = [.ref a] ∧ ns.length ≤ 63 ∧ (∀ z ∈ ns, Builtin.Int.intBits z ≤ 1048576) ∧ SqL K H a (ns.map V.int) ∧ H P = some (.tbl #[]) ∧ ∀ H', Q (.bl true) H'
theorem law_rf {P0 : Program} {w : World} {K : PySem.W.Frag} {mg : Str → Option Value} {base : Heap} {gd : Gd} {cl fas : Nat → Addr} {lt : Nat → Option LamT} {x qual : Str} {st : Stmt} {f c P : Addr} {oc kV doc pm ct : Value} {od an : Option Addr} {osl : Array (Option Value)} {N : List Str} {pr : Str} {k : Nat} {m : MS}
    (lk : K.lookup f = some ⟨oc, od, .func (PySem.W.fnOf x qual (defArgs st) (defBody st) (defScope st) .none kV doc pm an (.ref c) ct), osl⟩) (hcd : PySem.W.codeIn K (.ref c) qual = true) (S : FnScope N [pr] (defScope st))
    (hbody : ∀ (A : Around) (outer : List Env) (s : Shared) (H : Hp) (E : XK), Room k (A.deeper (envOfC qual (defScope st) s.heap.objs.size f (.ref c))) →
      PSs (cxOf (L2.CX P0 w) P0 w K mg base N qual (defScope st) f (.ref c) A outer s H E) (defBody st) (RS (mkG gd K (lawCA cl lt (envOfC qual (defScope st) s.heap.objs.size f (.ref c)) P) fas) (fun cls d _ H' => E cls d H') m))
    (hrun : ∀ ns : List Int, ns.length ≤ 63 → (∀ z ∈ ns, Builtin.Int.intBits z ≤ 1048576) → ∃ hs', runFn N.length 1 m [.frl (ns.map D.int)] [] = .ok (.bl true) hs') :
    FnOk P0 w K mg base (L2.CX P0 w) (k + 1) f (PySem.W.fnOf x qual (defArgs st) (defBody st) (defScope st) .none kV doc pm an (.ref c) ct) [pr] (spLw K P) := by
  have hN : 1 ≤ N.length := by have q := congrArg List.length S.pre; rw [List.length_take] at q; simp only [List.length_cons, List.length_nil] at q; omega
  refine fn_of lk hcd S (fun vs H Q E ⟨a, ns, e, _⟩ => by rw [e]; rfl) fun A outer s H vs Q E hr ⟨a, ns, e, h1, h2, h3, h4, h5⟩ => ⟨_, hbody A outer s H E hr, body_sp hN ?_⟩
  subst e
  have nw : ∀ a, ¬ WBox (fun _ => False) [] a := fun a h => by
    rcases h with h | h
    · exact h
    · cases h
  have sb : Sub H (hide (WBox (fun _ => False) []) H) := fun a o h _ => hide_of (nw a) h
  have rp : ∀ (ca : CA) (l : List Int), Reps K ca [] (hide (WBox (fun _ => False) []) H) (l.map D.int) (l.map V.int) := fun ca l => reps_ints l
  refine ⟨rfl, fun _ => False, [], [], [.frl (ns.map D.int)], ⟨fun i a q => (by cases q), rfl, List.nodup_nil, fun a z => z.elim, fun q hq => ?_⟩, .cons (.frl (sb.seq h3) (rp _ ns)) .nil, ?_⟩
  · have hq : q ∈ [(P, _)] := hq
    rw [List.mem_singleton] at hq
    subst hq
    exact LamX.TabS.nil h4
  · obtain ⟨hs', q⟩ := hrun ns h1 h2
    rw [q]
    intro ρ' v H' _ _ r
    cases r
    exact h5 H'
/-- what LamX.walk_ofOwn asks -/
theorem law_at {l : PySem.W.OpenLaw} {w : World} {K : PySem.W.Frag} {k : Nat} {x : Str} {mg : Str → Option Value} {fa c P : Addr} {h : Heap} {fd : FuncData} {oc e : Value} {od dd : Option Addr} {osl sl : Array (Option Value)} {vs : Array Value} (KX : K.In h) (own : LamX.OwnTab K fa h)
    (lk : K.lookup fa = some ⟨oc, od, .func fd, osl⟩) (hc : fd.code = .ref c) (lc : K.lookup c = some ⟨e, dd, .fields vs, sl⟩) (v11 : vs[11]? = some (.ref P)) (nP : K.lookup P = none) (hd : PySem.W.codeHdIn K c P = true)
    (hb : ∀ (s : Shared) (u : Value), BindsTo s fd ⟨[u], []⟩ [(x, u)]) (F : ∀ base : Heap, K.In base → base.Ns mainGlobals mg → LamX.TabB base mg c P → FnOk l.prog w K mg base (L2.CX l.prog w) k fa fd [x] (spLw K P)) :
    LamX.LawAtS l w K (L2.CX l.prog w) k 63 x mg fa h :=
  ⟨fd, [(c, P)], spLw K P, fun p hp => by rw [List.mem_singleton] at hp; subst hp; exact own c P _ fd e dd vs sl lk rfl hc lc v11, fun p hp => by rw [List.mem_singleton] at hp; subst hp; exact nP, fun p hp => by rw [List.mem_singleton] at hp; subst hp; exact PySem.W.codeHd_of_K KX hd, hb,
    fun H a ns h1 h2 h3 h4 => ⟨a, ns, rfl, h1, h2, h4, h3 _ List.mem_cons_self, fun _ => rfl⟩, fun base B1 B2 B3 => F base B1 B2 (B3 _ List.mem_cons_self)⟩
end Rf

set_option Elab.async false
set_option linter.all false
set_option maxRecDepth 100000
set_option maxHeartbeats 2000000
/-! Rf, part z11: list(range(a, b)). -/
namespace Rf
open PySem PySem.Spec PyProof.Rows L2
def rgD (a b : Int) : List D := (List.range (b - a).toNat).map fun i => D.int (a + (i : Nat))
def nLRg2 (ma mb : M Hd) : M Nat := bnd ma fun h => bnd mb fun k => bnd (look h) fun x => bnd (look k) fun y => (match x, y with
  | .int i, .int j => if 0 ≤ i ∧ j ≤ 16777216 ∧ i ≤ 16777216 ∧ 0 ≤ j then fresh (.lst (rgD i j)) else bad
  | _, _ => bad)
section
variable {g : G} {X : Cx} {E : L2.WX} {a b : Expr} {ma mb : M Hd} {p p2 pos pos2 : PySem.Pos}
theorem rep_rg {K : PySem.W.Frag} {ca : CA} {ρ : List Addr} {H : Hp} (i : Int) : ∀ l : List Nat, Reps K ca ρ H (l.map fun n => D.int (i + (n : Nat))) (l.map fun n => V.int (i + (n : Nat)))
  | [] => .nil
  | n :: r => .cons (.int _) (rep_rg i r)
theorem rn_listRg2 (hc : X.calm = true) (hg : Gl X "list") (hm : X.mg "list" = none) (hg2 : Gl X "range") (hm2 : X.mg "range" = none) (ha : PE X a (RE g E ma)) (hb : PE X b (RE g E mb)) (na : starEach [a, b] X.env = (false, eval a X.env) :: starEach [b] X.env) (nb : starEach [b] X.env = (false, eval b X.env) :: starEach [] X.env)
    (hp : (backTo pos2 (starEach [b] X.env)).any (·.1) = false) (na2 : starEach [.Call (.Name "range" p2) [a, b] [] pos2] X.env = (false, eval (.Call (.Name "range" p2) [a, b] [] pos2) X.env) :: starEach [] X.env) :
    PE X (.Call (.Name "list" p) [.Call (.Name "range" p2) [a, b] [] pos2] [] pos) (RN g E (nLRg2 ma mb)) :=
  (pe_listRg hc hg hm (prg_2 hg2 hm2 ha hb na nb hp) na2).weak fun σ H Q ⟨F, st, w⟩ =>
  ⟨F, st, (RFw.bind (R := RH g) w).mono fun v H1 ⟨F1, h1, st1, l1, r1, w⟩ => ⟨F1, st1, (RFw.bind (R := RH g) w).mono fun u H2 ⟨F2, h2, st2, l2, r2, w⟩ => by
    obtain ⟨x, rx, w⟩ := w.look_bind (RepH.lk l2 r1)
    obtain ⟨y, ry, w⟩ := w.look_bind r2
    cases x with
    | int i =>
      cases y with
      | int j =>
        obtain rfl := rx.int
        obtain rfl := ry.int
        dsimp only at w
        split at w
        · rename_i hz
          exact ⟨i, j, rfl, rfl, RgOk.of_le hz.1 hz.2.1 hz.2.2.1 hz.2.2.2, fun q hq => w.fresh_end hq ⟨_, upd_same, rep_rg i _⟩⟩
        · exact w.2.elim
      | _ => exact w.2.elim
    | _ => exact w.2.elim⟩⟩
end
end Rf

set_option Elab.async false
set_option linter.all false
set_option maxRecDepth 100000
set_option maxHeartbeats 2000000
/-! K03: the text, the tables. -/
namespace K03
open PySem L2 PyProof.Rows Rf
def tyEq : Ty → Ty → Bool
  | .b s, .b q => decide (s = q)
  | .c a, .c b => decide (a = b)
  | _, _ => false
theorem tyEq_of : ∀ {a b : Ty}, tyEq a b = true → a = b
  | .b s, .b q, h => by rw [of_decide_eq_true (show decide (s = q) = true from h)]
  | .c a, .c b, h => by rw [of_decide_eq_true (show decide (a = b) = true from h)]
  | .b s, .c b, h => by cases h
  | .c s, .b b, h => by cases h
def top (i : Nat) : Stmt := PySem.Challenge.pw_watchedhands_k03_whole_windows.main.body.getD i (.Pass ⟨0, 0, 0, 0⟩)
abbrev s_BadPart_init : Stmt := inClass (top 2) 0
abbrev N_BadPart_init : List Str := ["self", "part", "place"]
abbrev ps_BadPart_init : List Str := ["self", "part", "place"]
theorem sc_BadPart_init : FnScope N_BadPart_init ps_BadPart_init (defScope s_BadPart_init) := ⟨rfl, rfl, rfl, by decide +kernel, rfl, by decide +kernel, by decide +kernel⟩
abbrev s_TooLarge_init : Stmt := inClass (top 3) 0
abbrev s_is_integer : Stmt := top 5
abbrev N_is_integer : List Str := ["thing"]
abbrev ps_is_integer : List Str := ["thing"]
theorem sc_is_integer : FnScope N_is_integer ps_is_integer (defScope s_is_integer) := ⟨rfl, rfl, rfl, by decide +kernel, rfl, by decide +kernel, by decide +kernel⟩
abbrev s_is_row : Stmt := top 6
abbrev N_is_row : List Str := ["thing"]
abbrev ps_is_row : List Str := ["thing"]
theorem sc_is_row : FnScope N_is_row ps_is_row (defScope s_is_row) := ⟨rfl, rfl, rfl, by decide +kernel, rfl, by decide +kernel, by decide +kernel⟩
abbrev s_is_number : Stmt := top 7
abbrev N_is_number : List Str := ["thing", "low", "high"]
abbrev ps_is_number : List Str := ["thing", "low", "high"]
theorem sc_is_number : FnScope N_is_number ps_is_number (defScope s_is_number) := ⟨rfl, rfl, rfl, by decide +kernel, rfl, by decide +kernel, by decide +kernel⟩
abbrev s_check_number : Stmt := top 8
abbrev N_check_number : List Str := ["part", "thing", "low", "high"]
abbrev ps_check_number : List Str := ["part", "thing", "low", "high"]
theorem sc_check_number : FnScope N_check_number ps_check_number (defScope s_check_number) := ⟨rfl, rfl, rfl, by decide +kernel, rfl, by decide +kernel, by decide +kernel⟩
abbrev s_Faults_init : Stmt := inClass (top 10) 0
abbrev N_Faults_init : List Str := ["self", "many", "ticks"]
abbrev ps_Faults_init : List Str := ["self", "many", "ticks"]
theorem sc_Faults_init : FnScope N_Faults_init ps_Faults_init (defScope s_Faults_init) := ⟨rfl, rfl, rfl, by decide +kernel, rfl, by decide +kernel, by decide +kernel⟩
abbrev s_Faults_eq : Stmt := inClass (top 10) 1
abbrev N_Faults_eq : List Str := ["self", "other"]
abbrev ps_Faults_eq : List Str := ["self", "other"]
theorem sc_Faults_eq : FnScope N_Faults_eq ps_Faults_eq (defScope s_Faults_eq) := ⟨rfl, rfl, rfl, by decide +kernel, rfl, by decide +kernel, by decide +kernel⟩
abbrev s_check_faults : Stmt := top 11
abbrev N_check_faults : List Str := ["faults"]
abbrev ps_check_faults : List Str := ["faults"]
theorem sc_check_faults : FnScope N_check_faults ps_check_faults (defScope s_check_faults) := ⟨rfl, rfl, rfl, by decide +kernel, rfl, by decide +kernel, by decide +kernel⟩
abbrev s_check_falls : Stmt := top 12
abbrev N_check_falls : List Str := ["falls", "last", "place", "tick"]
abbrev ps_check_falls : List Str := ["falls"]
theorem sc_check_falls : FnScope N_check_falls ps_check_falls (defScope s_check_falls) := ⟨rfl, rfl, rfl, by decide +kernel, rfl, by decide +kernel, by decide +kernel⟩
abbrev s_within : Stmt := top 13
abbrev N_within : List Str := ["falls", "now", "ticks", "tick"]
abbrev ps_within : List Str := ["falls", "now", "ticks"]
theorem sc_within : FnScope N_within ps_within (defScope s_within) := ⟨rfl, rfl, rfl, by decide +kernel, rfl, by decide +kernel, by decide +kernel⟩
abbrev s_are_within : Stmt := top 14
abbrev N_are_within : List Str := ["faults", "falls", "place", "tick"]
abbrev ps_are_within : List Str := ["faults", "falls"]
theorem sc_are_within : FnScope N_are_within ps_are_within (defScope s_are_within) := ⟨rfl, rfl, rfl, by decide +kernel, rfl, by decide +kernel, by decide +kernel⟩
abbrev s_first_beyond : Stmt := top 15
abbrev N_first_beyond : List Str := ["most", "ticks", "falls", "place", "tick"]
abbrev ps_first_beyond : List Str := ["most", "ticks", "falls"]
theorem sc_first_beyond : FnScope N_first_beyond ps_first_beyond (defScope s_first_beyond) := ⟨rfl, rfl, rfl, by decide +kernel, rfl, by decide +kernel, by decide +kernel⟩
abbrev s_soonest : Stmt := top 16
abbrev N_soonest : List Str := ["faults", "many", "number"]
abbrev ps_soonest : List Str := ["faults", "many"]
theorem sc_soonest : FnScope N_soonest ps_soonest (defScope s_soonest) := ⟨rfl, rfl, rfl, by decide +kernel, rfl, by decide +kernel, by decide +kernel⟩
abbrev s_span_of : Stmt := top 17
abbrev N_span_of : List Str := ["faults", "many", "found"]
abbrev ps_span_of : List Str := ["faults", "many"]
theorem sc_span_of : FnScope N_span_of ps_span_of (defScope s_span_of) := ⟨rfl, rfl, rfl, by decide +kernel, rfl, by decide +kernel, by decide +kernel⟩
abbrev s_Bears_init : Stmt := inClass (top 18) 0
abbrev N_Bears_init : List Str := ["self", "many"]
abbrev ps_Bears_init : List Str := ["self", "many"]
theorem sc_Bears_init : FnScope N_Bears_init ps_Bears_init (defScope s_Bears_init) := ⟨rfl, rfl, rfl, by decide +kernel, rfl, by decide +kernel, by decide +kernel⟩
abbrev s_Bears_bool : Stmt := inClass (top 18) 1
abbrev N_Bears_bool : List Str := ["self"]
abbrev ps_Bears_bool : List Str := ["self"]
theorem sc_Bears_bool : FnScope N_Bears_bool ps_Bears_bool (defScope s_Bears_bool) := ⟨rfl, rfl, rfl, by decide +kernel, rfl, by decide +kernel, by decide +kernel⟩
abbrev s_Bears_eq : Stmt := inClass (top 18) 2
abbrev N_Bears_eq : List Str := ["self", "other"]
abbrev ps_Bears_eq : List Str := ["self", "other"]
theorem sc_Bears_eq : FnScope N_Bears_eq ps_Bears_eq (defScope s_Bears_eq) := ⟨rfl, rfl, rfl, by decide +kernel, rfl, by decide +kernel, by decide +kernel⟩
abbrev s_Bears_shows : Stmt := inClass (top 18) 3
abbrev N_Bears_shows : List Str := ["self", "most", "ticks", "faults"]
abbrev ps_Bears_shows : List Str := ["self", "most", "ticks", "faults"]
theorem sc_Bears_shows : FnScope N_Bears_shows ps_Bears_shows (defScope s_Bears_shows) := ⟨rfl, rfl, rfl, by decide +kernel, rfl, by decide +kernel, by decide +kernel⟩
abbrev s_Passed_init : Stmt := inClass (top 19) 0
abbrev N_Passed_init : List Str := ["self", "falls"]
abbrev ps_Passed_init : List Str := ["self", "falls"]
theorem sc_Passed_init : FnScope N_Passed_init ps_Passed_init (defScope s_Passed_init) := ⟨rfl, rfl, rfl, by decide +kernel, rfl, by decide +kernel, by decide +kernel⟩
abbrev s_Passed_bool : Stmt := inClass (top 19) 1
abbrev N_Passed_bool : List Str := ["self"]
abbrev ps_Passed_bool : List Str := ["self"]
theorem sc_Passed_bool : FnScope N_Passed_bool ps_Passed_bool (defScope s_Passed_bool) := ⟨rfl, rfl, rfl, by decide +kernel, rfl, by decide +kernel, by decide +kernel⟩
abbrev s_Passed_eq : Stmt := inClass (top 19) 2
abbrev N_Passed_eq : List Str := ["self", "other"]
abbrev ps_Passed_eq : List Str := ["self", "other"]
theorem sc_Passed_eq : FnScope N_Passed_eq ps_Passed_eq (defScope s_Passed_eq) := ⟨rfl, rfl, rfl, by decide +kernel, rfl, by decide +kernel, by decide +kernel⟩
abbrev s_Passed_shows : Stmt := inClass (top 19) 3
abbrev N_Passed_shows : List Str := ["self", "most", "ticks", "faults", "last", "tick"]
abbrev ps_Passed_shows : List Str := ["self", "most", "ticks", "faults"]
theorem sc_Passed_shows : FnScope N_Passed_shows ps_Passed_shows (defScope s_Passed_shows) := ⟨rfl, rfl, rfl, by decide +kernel, rfl, by decide +kernel, by decide +kernel⟩
abbrev s_check_bound : Stmt := top 20
abbrev N_check_bound : List Str := ["most", "ticks", "faults"]
abbrev ps_check_bound : List Str := ["most", "ticks", "faults"]
theorem sc_check_bound : FnScope N_check_bound ps_check_bound (defScope s_check_bound) := ⟨rfl, rfl, rfl, by decide +kernel, rfl, by decide +kernel, by decide +kernel⟩
abbrev s_most_within : Stmt := top 21
abbrev N_most_within : List Str := ["ticks", "faults"]
abbrev ps_most_within : List Str := ["ticks", "faults"]
theorem sc_most_within : FnScope N_most_within ps_most_within (defScope s_most_within) := ⟨rfl, rfl, rfl, by decide +kernel, rfl, by decide +kernel, by decide +kernel⟩
abbrev s_judge_bound : Stmt := top 22
abbrev N_judge_bound : List Str := ["most", "ticks", "faults", "many"]
abbrev ps_judge_bound : List Str := ["most", "ticks", "faults"]
theorem sc_judge_bound : FnScope N_judge_bound ps_judge_bound (defScope s_judge_bound) := ⟨rfl, rfl, rfl, by decide +kernel, rfl, by decide +kernel, by decide +kernel⟩
abbrev s_least_most : Stmt := top 23
abbrev N_least_most : List Str := ["ticks", "faults"]
abbrev ps_least_most : List Str := ["ticks", "faults"]
theorem sc_least_most : FnScope N_least_most ps_least_most (defScope s_least_most) := ⟨rfl, rfl, rfl, by decide +kernel, rfl, by decide +kernel, by decide +kernel⟩
abbrev s_greatest_ticks : Stmt := top 24
abbrev N_greatest_ticks : List Str := ["most", "faults", "good", "ticks"]
abbrev ps_greatest_ticks : List Str := ["most", "faults"]
theorem sc_greatest_ticks : FnScope N_greatest_ticks ps_greatest_ticks (defScope s_greatest_ticks) := ⟨rfl, rfl, rfl, by decide +kernel, rfl, by decide +kernel, by decide +kernel⟩
abbrev s__law_number : Stmt := top 26
abbrev N__law_number : List Str := ["script", "index", "cell", "turn", "rest", "step", "blend"]
abbrev ps__law_number : List Str := ["script", "index"]
theorem sc__law_number : FnScope N__law_number ps__law_number (defScope s__law_number) := ⟨rfl, rfl, rfl, by decide +kernel, rfl, by decide +kernel, by decide +kernel⟩
abbrev s__law_take : Stmt := top 27
abbrev N__law_take : List Str := ["draw", "many"]
abbrev ps__law_take : List Str := ["draw", "many"]
theorem sc__law_take : FnScope N__law_take ps__law_take (defScope s__law_take) := ⟨rfl, rfl, rfl, by decide +kernel, rfl, by decide +kernel, by decide +kernel⟩
abbrev s__law_refused : Stmt := top 28
abbrev N__law_refused : List Str := ["deed", "fault"]
abbrev ps__law_refused : List Str := ["deed"]
theorem sc__law_refused : FnScope N__law_refused ps__law_refused (defScope s__law_refused) := ⟨rfl, rfl, rfl, by decide +kernel, rfl, by decide +kernel, by decide +kernel⟩
abbrev s__law_most : Stmt := top 29
abbrev N__law_most : List Str := ["falls", "ticks", "found", "tick", "one"]
abbrev ps__law_most : List Str := ["falls", "ticks"]
theorem sc__law_most : FnScope N__law_most ps__law_most (defScope s__law_most) := ⟨rfl, rfl, rfl, by decide +kernel, rfl, by decide +kernel, by decide +kernel⟩
abbrev s__law_rows : Stmt := top 30
abbrev N__law_rows : List Str := ["most", "last", "found", "layer", "turn", "late", "row", "tick"]
abbrev ps__law_rows : List Str := ["most", "last"]
theorem sc__law_rows : FnScope N__law_rows ps__law_rows (defScope s__law_rows) := ⟨rfl, rfl, rfl, by decide +kernel, rfl, by decide +kernel, by decide +kernel⟩
abbrev s_law : Stmt := top 31
abbrev N_law : List Str := ["script", "draw", "faults", "falls", "tick", "turn", "most", "ticks", "places", "place", "one", "every", "row", "many", "rows", "early", "late", "top", "found", "due", "fits", "wrong", "deed", "part"]
abbrev ps_law : List Str := ["script"]
theorem sc_law : FnScope N_law ps_law (defScope s_law) := ⟨rfl, rfl, rfl, by decide +kernel, rfl, by decide +kernel, by decide +kernel⟩
def mt_eq : Nat → Option Nat
  | 3 => some 0
  | 4 => some 2
  | 5 => some 5
  | _ => none
def mt_bool : Nat → Option Nat
  | 4 => some 1
  | 5 => some 4
  | _ => none
def mt_shows : Nat → Option Nat
  | 4 => some 3
  | 5 => some 6
  | _ => none
def methT (c : Nat) (m : Str) : Option Nat :=
  if m = "__eq__" then mt_eq c else
  if m = "__bool__" then mt_bool c else
  if m = "shows" then mt_shows c else
  none
def okT (c : Nat) (f : Str) : Bool := match c with
  | 3 => decide (f = "many") || decide (f = "ticks")
  | 4 => decide (f = "many")
  | 5 => decide (f = "falls")
  | _ => false
def isiL : List (Ty × Ty × Bool) := [(.b "int", .b "int", true), (.b "NoneType", .b "int", false), (.b "str", .b "int", false), (.b "int", .b "bool", false), (.b "list", .b "list", true), (.b "tuple", .b "list", false), (.b "tuple", .b "tuple", true), (.b "int", .b "list", false), (.b "int", .b "tuple", false), (.c 3, .c 3, true), (.b "NoneType", .c 3, false), (.b "int", .c 3, false), (.c 4, .c 4, true), (.c 5, .c 5, true)]
def isiT (t q : Ty) : Option Bool := (isiL.find? fun e => tyEq e.1 t && tyEq e.2.1 q).map (·.2.2)
def fnT : Nat → Nat
  | 0 => 2
  | 1 => 1
  | 2 => 2
  | 3 => 4
  | 4 => 1
  | 5 => 2
  | 6 => 4
  | _ => 0
def nfT (a b : Nat) : Bool := decide ((a, b) ∈ ([(3, 3), (4, 4), (5, 5)] : List (Nat × Nat)))
def hneT (a : Nat) : Bool := decide (a ∈ ([4, 5] : List Nat))
def gd : Gd := { okF := okT, meth := methT, fn := fnT, ini := fun _ => none, isi := isiT, nf := nfT, hne := hneT }
def tyV (cl : Nat → Addr) : Ty → Value
  | .b s => .type s
  | .c n => .ref (cl n)
def AllI (K : PySem.W.Frag) (cl : Nat → Addr) : List (Ty × Ty × Bool) → Prop
  | [] => True
  | e :: r => PySem.W.kitOne K (tyV cl e.1) (tyV cl e.2.1) = some e.2.2 ∧ AllI K cl r
structure Txt (K : PySem.W.Frag) (mg : Str → Option Value) (cl fa : Nat → Addr) : Prop where
  b_isinstance : mg "isinstance" = none
  b_int : mg "int" = none
  b_bool : mg "bool" = none
  b_list : mg "list" = none
  b_tuple : mg "tuple" = none
  b_enumerate : mg "enumerate" = none
  b_all : mg "all" = none
  b_any : mg "any" = none
  b_len : mg "len" = none
  b_range : mg "range" = none
  b_max : mg "max" = none
  b_min : mg "min" = none
  b_zip : mg "zip" = none
  b_sorted : mg "sorted" = none
  g_BadPart : mg "BadPart" = some (.ref (cl 1))
  g_TooLarge : mg "TooLarge" = some (.ref (cl 2))
  g_Faults : mg "Faults" = some (.ref (cl 3))
  g_Bears : mg "Bears" = some (.ref (cl 4))
  g_Passed : mg "Passed" = some (.ref (cl 5))
  isi : AllI K cl isiL
  ins_3 : InsT K (cl 3)
  mk_3 : ∃ f fd, Mk K (cl 3) f ∧ Fun K "__init__" "Faults.__init__" s_Faults_init f fd ∧ Binds K fd ps_Faults_init []
  na_3_many : NoAttr K (cl 3) "many"
  na_3_ticks : NoAttr K (cl 3) "ticks"
  ins_4 : InsT K (cl 4)
  mk_4 : ∃ f fd, Mk K (cl 4) f ∧ Fun K "__init__" "Bears.__init__" s_Bears_init f fd ∧ Binds K fd ps_Bears_init []
  na_4_many : NoAttr K (cl 4) "many"
  ins_5 : InsT K (cl 5)
  mk_5 : ∃ f fd, Mk K (cl 5) f ∧ Fun K "__init__" "Passed.__init__" s_Passed_init f fd ∧ Binds K fd ps_Passed_init []
  na_5_falls : NoAttr K (cl 5) "falls"
  me_0 : Meth K (cl 3) "__eq__" (fa 0)
  fm_0 : ∃ fd, Fun K "__eq__" "Faults.__eq__" s_Faults_eq (fa 0) fd ∧ Binds K fd ps_Faults_eq []
  me_1 : Meth K (cl 4) "__bool__" (fa 1)
  fm_1 : ∃ fd, Fun K "__bool__" "Bears.__bool__" s_Bears_bool (fa 1) fd ∧ Binds K fd ps_Bears_bool []
  me_2 : Meth K (cl 4) "__eq__" (fa 2)
  fm_2 : ∃ fd, Fun K "__eq__" "Bears.__eq__" s_Bears_eq (fa 2) fd ∧ Binds K fd ps_Bears_eq []
  me_3 : Meth K (cl 4) "shows" (fa 3)
  fm_3 : ∃ fd, Fun K "shows" "Bears.shows" s_Bears_shows (fa 3) fd ∧ Binds K fd ps_Bears_shows []
  me_4 : Meth K (cl 5) "__bool__" (fa 4)
  fm_4 : ∃ fd, Fun K "__bool__" "Passed.__bool__" s_Passed_bool (fa 4) fd ∧ Binds K fd ps_Passed_bool []
  me_5 : Meth K (cl 5) "__eq__" (fa 5)
  fm_5 : ∃ fd, Fun K "__eq__" "Passed.__eq__" s_Passed_eq (fa 5) fd ∧ Binds K fd ps_Passed_eq []
  me_6 : Meth K (cl 5) "shows" (fa 6)
  fm_6 : ∃ fd, Fun K "shows" "Passed.shows" s_Passed_shows (fa 6) fd ∧ Binds K fd ps_Passed_shows []
  nf_3_3 : PySem.W.notFirst K (cl 3) (.ref (cl 3)) = true
  nf_4_4 : PySem.W.notFirst K (cl 4) (.ref (cl 4)) = true
  nf_5_5 : PySem.W.notFirst K (cl 5) (.ref (cl 5)) = true
  ne_4 : PySem.W.findIn K (.ref (cl 4)) "__ne__" = some (some (.builtin "object.__ne__"))
  ne_5 : PySem.W.findIn K (.ref (cl 5)) "__ne__" = some (some (.builtin "object.__ne__"))
  ox_1 : OexC K (cl 1)
  xi_1 : ∃ f fd, PySem.W.findIn K (.ref (cl 1)) "__init__" = some (some (.ref f)) ∧ PySem.W.typeIn K (.ref f) = some (.type "function") ∧ Fun K "__init__" "BadPart.__init__" s_BadPart_init f fd ∧ Binds K fd ps_BadPart_init []
  xf_1 : XfC K (cl 1)
  xe_1 : PySem.W.exmOne K (.ref (cl 1)) (.ref (cl 1)) = some true
  xn_1_part : PySem.W.findIn K (.ref (cl 1)) "part" = some none
  xn_1_place : PySem.W.findIn K (.ref (cl 1)) "place" = some none
  f_is_integer : ∃ f fd, Fun K "is_integer" "is_integer" s_is_integer f fd ∧ mg "is_integer" = some (.ref f) ∧ Binds K fd ps_is_integer []
  f_is_row : ∃ f fd, Fun K "is_row" "is_row" s_is_row f fd ∧ mg "is_row" = some (.ref f) ∧ Binds K fd ps_is_row []
  f_is_number : ∃ f fd, Fun K "is_number" "is_number" s_is_number f fd ∧ mg "is_number" = some (.ref f) ∧ Binds K fd ps_is_number []
  f_check_number : ∃ f fd, Fun K "check_number" "check_number" s_check_number f fd ∧ mg "check_number" = some (.ref f) ∧ Binds K fd ps_check_number []
  f_check_faults : ∃ f fd, Fun K "check_faults" "check_faults" s_check_faults f fd ∧ mg "check_faults" = some (.ref f) ∧ Binds K fd ps_check_faults []
  f_check_falls : ∃ f fd, Fun K "check_falls" "check_falls" s_check_falls f fd ∧ mg "check_falls" = some (.ref f) ∧ Binds K fd ps_check_falls []
  f_within : ∃ f fd, Fun K "within" "within" s_within f fd ∧ mg "within" = some (.ref f) ∧ Binds K fd ps_within []
  f_are_within : ∃ f fd, Fun K "are_within" "are_within" s_are_within f fd ∧ mg "are_within" = some (.ref f) ∧ Binds K fd ps_are_within []
  f_first_beyond : ∃ f fd, Fun K "first_beyond" "first_beyond" s_first_beyond f fd ∧ mg "first_beyond" = some (.ref f) ∧ Binds K fd ps_first_beyond []
  f_soonest : ∃ f fd, Fun K "soonest" "soonest" s_soonest f fd ∧ mg "soonest" = some (.ref f) ∧ Binds K fd ps_soonest []
  f_span_of : ∃ f fd, Fun K "span_of" "span_of" s_span_of f fd ∧ mg "span_of" = some (.ref f) ∧ Binds K fd ps_span_of []
  f_check_bound : ∃ f fd, Fun K "check_bound" "check_bound" s_check_bound f fd ∧ mg "check_bound" = some (.ref f) ∧ Binds K fd ps_check_bound []
  f_most_within : ∃ f fd, Fun K "most_within" "most_within" s_most_within f fd ∧ mg "most_within" = some (.ref f) ∧ Binds K fd ps_most_within []
  f_judge_bound : ∃ f fd, Fun K "judge_bound" "judge_bound" s_judge_bound f fd ∧ mg "judge_bound" = some (.ref f) ∧ Binds K fd ps_judge_bound []
  f_least_most : ∃ f fd, Fun K "least_most" "least_most" s_least_most f fd ∧ mg "least_most" = some (.ref f) ∧ Binds K fd ps_least_most []
  f_greatest_ticks : ∃ f fd, Fun K "greatest_ticks" "greatest_ticks" s_greatest_ticks f fd ∧ mg "greatest_ticks" = some (.ref f) ∧ Binds K fd ps_greatest_ticks []
  f__law_number : ∃ f fd, Fun K "_law_number" "_law_number" s__law_number f fd ∧ mg "_law_number" = some (.ref f) ∧ Binds K fd ps__law_number []
  f__law_take : ∃ f fd, Fun K "_law_take" "_law_take" s__law_take f fd ∧ mg "_law_take" = some (.ref f) ∧ Binds K fd ps__law_take []
  f__law_most : ∃ f fd, Fun K "_law_most" "_law_most" s__law_most f fd ∧ mg "_law_most" = some (.ref f) ∧ Binds K fd ps__law_most []
  f__law_rows : ∃ f fd, Fun K "_law_rows" "_law_rows" s__law_rows f fd ∧ mg "_law_rows" = some (.ref f) ∧ Binds K fd ps__law_rows []
section
variable {P : Program} {w : World} {K : PySem.W.Frag} {mg : Str → Option Value} {base : Heap} {cl fa : Nat → Addr} {ca : CA}
theorem allI : ∀ {l : List (Ty × Ty × Bool)}, AllI K cl l → ∀ e ∈ l, PySem.W.kitOne K (tyV cl e.1) (tyV cl e.2.1) = some e.2.2
  | [], _, e, h => by cases h
  | a :: r, h, e, he => by
    rcases List.mem_cons.mp he with q | q
    · rw [q]; exact h.1
    · exact allI h.2 e q
theorem tv_eq (hca : ca.cl = cl) (t : Ty) : (mkG gd K ca fa).tv t = tyV cl t := by cases t <;> first | rfl | (subst hca; rfl)
theorem clsF (hT : Txt K mg cl fa) (ca : CA) (hca : ca.cl = cl) : ClsF (mkG gd K ca fa) := by
  subst hca
  refine ⟨fun t q b h => ?_, fun c q b h => ?_, fun c c2 h => ?_, fun c h => ?_, fun c f h => ?_, fun c m i h => ?_⟩
  · obtain ⟨e, he, hb⟩ := Option.map_eq_some_iff.mp (show (isiL.find? fun e => tyEq e.1 t && tyEq e.2.1 q).map (·.2.2) = some b from h)
    have hp := List.find?_some he
    obtain ⟨hp1, hp2⟩ := (Bool.and_eq_true _ _).mp hp
    have hp1 := tyEq_of hp1
    have hp2 := tyEq_of hp2
    have z := allI hT.isi e (List.mem_of_find?_eq_some he)
    rw [hp1, hp2, hb] at z
    rw [tv_eq rfl, tv_eq rfl]
    exact z
  · obtain ⟨e, he, hb⟩ := Option.map_eq_some_iff.mp (show (isiL.find? fun e => tyEq e.1 (.c c) && tyEq e.2.1 q).map (·.2.2) = some b from h)
    have hp := List.find?_some he
    obtain ⟨hp1, hp2⟩ := (Bool.and_eq_true _ _).mp hp
    have hp1 := tyEq_of hp1
    have hp2 := tyEq_of hp2
    have hc : ∀ e ∈ isiL, e.1 = .c c → c = 3 ∨ c = 4 ∨ c = 5 := by
      intro e he hq
      simp only [isiL, List.mem_cons, List.not_mem_nil, or_false] at he
      rcases he with rfl | rfl | rfl | rfl | rfl | rfl | rfl | rfl | rfl | rfl | rfl | rfl | rfl | rfl <;> first | (cases hq; done) | (cases hq; simp)
    rcases hc e (List.mem_of_find?_eq_some he) hp1 with rfl | rfl | rfl
    · exact hT.ins_3
    · exact hT.ins_4
    · exact hT.ins_5
  · have h : (c, c2) ∈ ([(3, 3), (4, 4), (5, 5)] : List (Nat × Nat)) := of_decide_eq_true h
    simp only [List.mem_cons, Prod.mk.injEq, List.not_mem_nil, or_false] at h
    rcases h with ⟨rfl, rfl⟩ | ⟨rfl, rfl⟩ | ⟨rfl, rfl⟩
    · exact hT.nf_3_3
    · exact hT.nf_4_4
    · exact hT.nf_5_5
  · have h : c ∈ ([4, 5] : List Nat) := of_decide_eq_true h
    simp only [List.mem_cons, List.not_mem_nil, or_false] at h
    rcases h with rfl | rfl
    · exact ⟨hT.ne_4, hT.ins_4.hm⟩
    · exact ⟨hT.ne_5, hT.ins_5.hm⟩
  · replace h : okT c f = true := h
    unfold okT at h
    split at h <;> simp only [Bool.or_eq_true, decide_eq_true_eq, Bool.false_eq_true] at h
    · rcases h with h | h
      · subst h; exact ⟨hT.ins_3.cl, hT.na_3_many⟩
      · subst h; exact ⟨hT.ins_3.cl, hT.na_3_ticks⟩
    · subst h; exact ⟨hT.ins_4.cl, hT.na_4_many⟩
    · subst h; exact ⟨hT.ins_5.cl, hT.na_5_falls⟩
  · replace h : methT c m = some i := h
    unfold methT at h
    split at h
    · rename_i e; subst e; unfold mt_eq at h; split at h <;> first | (cases h; done) | (cases h; first | exact ⟨hT.ins_3.cl, hT.me_0⟩ | exact ⟨hT.ins_4.cl, hT.me_2⟩ | exact ⟨hT.ins_5.cl, hT.me_5⟩)
    split at h
    · rename_i e; subst e; unfold mt_bool at h; split at h <;> first | (cases h; done) | (cases h; first | exact ⟨hT.ins_4.cl, hT.me_1⟩ | exact ⟨hT.ins_5.cl, hT.me_4⟩)
    split at h
    · rename_i e; subst e; unfold mt_shows at h; split at h <;> first | (cases h; done) | (cases h; first | exact ⟨hT.ins_4.cl, hT.me_3⟩ | exact ⟨hT.ins_5.cl, hT.me_6⟩)
    · cases h
end
end K03

set_option Elab.async false
set_option linter.all false
set_option maxRecDepth 100000
set_option maxHeartbeats 2000000
/-! K03: each def walked. -/
namespace K03
open PySem L2 PyProof.Rows Rf
section
variable {P : Program} {w : World} {K : PySem.W.Frag} {mg : Str → Option Value} {base : Heap} {cl fa : Nat → Addr}
theorem rsr_BadPart (hT : Txt K mg cl fa) (ca : CA) (hca : ca.cl = cl) : Rsr (mkG gd K ca fa) P w mg base "BadPart" 1 1 ["part", "place"] := by
  subst hca
  obtain ⟨f, fd, h1, h2, F, hb⟩ := hT.xi_1
  exact ⟨f, fd, ps_BadPart_init, hT.ox_1, h1, h2, ok_x2 (k := 0) F sc_BadPart_init (by rfl) hT.ox_1 hT.xn_1_part hT.xn_1_place (by first | exact .inl (by rfl) | exact .inr (.inl (by rfl)) | exact .inr (.inr (by rfl))) (by first | exact .inl (by rfl) | exact .inr (.inl (by rfl)) | exact .inr (.inr (by rfl))) (by first | exact .inl (by rfl) | exact .inr (.inl (by rfl)) | exact .inr (.inr (by rfl))) (by decide) (by decide) (by decide) (by decide) (by decide) (by decide), hb, hT.g_BadPart⟩
def p_is_integer : MS := (sRet (mAndV [(mIsi gd (.b "int") (mVar 0)), (mNotV (mIsi gd (.b "bool") (mVar 0)))]))
def r_is_integer : List D → List D → OutC := runFn 1 1 p_is_integer
set_option maxHeartbeats 4000000 in
theorem ok_is_integer (hT : Txt K mg cl fa) (ca : CA) (hca : ca.cl = cl) : Cal (mkG gd K ca fa) P w mg base "is_integer" 1 1 r_is_integer := by
  subst hca
  have hC := clsF (fa := fa) hT ca rfl
  have sc := sc_is_integer
  obtain ⟨f, fd, F, hm, hb⟩ := hT.f_is_integer
  refine ⟨f, fd, ps_is_integer, fn_rf (g := (mkG gd K ca fa)) (N := N_is_integer) (ps := ps_is_integer) (k := 0) (m := p_is_integer) F sc fun cdv A outer s H E hr => ?_, hm, F.kp, hb⟩
  exact (rs_one (rs_ret (rf_andV (rf_isi (q := (.b "int")) (by rfl) hC (by rfl) (by exact hT.b_isinstance) (rf_var (i := 0) (by rfl) (by first | exact .inl (by rfl) | exact .inr (.inl (by rfl)) | exact .inr (.inr (by rfl))) (by decide) (by decide)) (pe_bltn (by rfl) (by exact hT.b_int) (by rfl) (by rfl)) (by rfl) (by rfl) (by rfl)) (rf_andV1 (rf_notV (rf_isi (q := (.b "bool")) (by rfl) hC (by rfl) (by exact hT.b_isinstance) (rf_var (i := 0) (by rfl) (by first | exact .inl (by rfl) | exact .inr (.inl (by rfl)) | exact .inr (.inr (by rfl))) (by decide) (by decide)) (pe_bltn (by rfl) (by exact hT.b_bool) (by rfl) (by rfl)) (by rfl) (by rfl) (by rfl)))))))
def p_is_row : MS := (sRet (mIsiT gd [(.b "list"), (.b "tuple")] (mVar 0)))
def r_is_row : List D → List D → OutC := runFn 1 1 p_is_row
set_option maxHeartbeats 4000000 in
theorem ok_is_row (hT : Txt K mg cl fa) (ca : CA) (hca : ca.cl = cl) : Cal (mkG gd K ca fa) P w mg base "is_row" 1 1 r_is_row := by
  subst hca
  have hC := clsF (fa := fa) hT ca rfl
  have sc := sc_is_row
  obtain ⟨f, fd, F, hm, hb⟩ := hT.f_is_row
  refine ⟨f, fd, ps_is_row, fn_rf (g := (mkG gd K ca fa)) (N := N_is_row) (ps := ps_is_row) (k := 0) (m := p_is_row) F sc fun cdv A outer s H E hr => ?_, hm, F.kp, hb⟩
  exact (rs_one (rs_ret (rf_isiT (qs := [(.b "list"), (.b "tuple")]) (by rfl) hC (by simp) (by decide) (by rfl) (by exact hT.b_isinstance) (rf_var (i := 0) (by rfl) (by first | exact .inl (by rfl) | exact .inr (.inl (by rfl)) | exact .inr (.inr (by rfl))) (by decide) (by decide)) (tys_cons (pe_bltn (by rfl) (by exact hT.b_list) (by rfl) (by rfl)) (tys_cons (pe_bltn (by rfl) (by exact hT.b_tuple) (by rfl) (by rfl)) tys_nil (by rfl)) (by rfl)) (by rfl) (by rfl) (by rfl))))
def p_is_number : MS := (sRet (mAndV [(mCall (fun _ => r_is_integer) 0 1 (mDs false [(mVar 0)])), (mChain leD leD (mVar 1) (mVar 0) (mVar 2))]))
def r_is_number : List D → List D → OutC := runFn 3 3 p_is_number
set_option maxHeartbeats 4000000 in
theorem ok_is_number (hT : Txt K mg cl fa) (ca : CA) (hca : ca.cl = cl) : Cal (mkG gd K ca fa) P w mg base "is_number" 5 3 r_is_number := by
  subst hca
  have hC := clsF (fa := fa) hT ca rfl
  have c_is_integer : Cal (mkG gd K ca fa) P w mg base "is_integer" 1 1 r_is_integer := ok_is_integer hT ca rfl
  have sc := sc_is_number
  obtain ⟨f, fd, F, hm, hb⟩ := hT.f_is_number
  refine ⟨f, fd, ps_is_number, fn_rf (g := (mkG gd K ca fa)) (N := N_is_number) (ps := ps_is_number) (k := 4) (m := p_is_number) F sc fun cdv A outer s H E hr => ?_, hm, F.kp, hb⟩
  exact (rs_one (rs_ret (rf_andV (rf_cal (by rfl) (by exact c_is_integer) (takes_of rfl rfl rfl rfl) (hr.mono (by decide)) (by rfl) (rf_args_cons (rf_var (i := 0) (by rfl) (by first | exact .inl (by rfl) | exact .inr (.inl (by rfl)) | exact .inr (.inr (by rfl))) (by decide) (by decide)) rf_args_nil (by rfl)) (by decide) (by rfl) (by rfl)) (rf_andV1 (rf_chain op_le op_le ok_le ok_le (rf_var (i := 1) (by rfl) (by first | exact .inl (by rfl) | exact .inr (.inl (by rfl)) | exact .inr (.inr (by rfl))) (by decide) (by decide)) (rf_var (i := 0) (by rfl) (by first | exact .inl (by rfl) | exact .inr (.inl (by rfl)) | exact .inr (.inr (by rfl))) (by decide) (by decide)) (rf_var (i := 2) (by rfl) (by first | exact .inl (by rfl) | exact .inr (.inl (by rfl)) | exact .inr (.inr (by rfl))) (by decide) (by decide)) (by rfl))))))
def p_check_number : MS := (sIf (mNotT (mTV (mCall (fun _ => r_is_number) 0 3 (mDs false [(mVar 1), (mVar 2), (mVar 3)])))) (sRaise 1 ["part", "place"] (mDs false [(mVar 0), (mC .non)])) sPass)
def r_check_number : List D → List D → OutC := runFn 4 4 p_check_number
set_option maxHeartbeats 4000000 in
theorem ok_check_number (hT : Txt K mg cl fa) (ca : CA) (hca : ca.cl = cl) : Cal (mkG gd K ca fa) P w mg base "check_number" 9 4 r_check_number := by
  subst hca
  have hC := clsF (fa := fa) hT ca rfl
  have x_BadPart : Rsr (mkG gd K ca fa) P w mg base "BadPart" 1 1 ["part", "place"] := rsr_BadPart hT ca rfl
  have c_is_number : Cal (mkG gd K ca fa) P w mg base "is_number" 5 3 r_is_number := ok_is_number hT ca rfl
  have sc := sc_check_number
  obtain ⟨f, fd, F, hm, hb⟩ := hT.f_check_number
  refine ⟨f, fd, ps_check_number, fn_rf (g := (mkG gd K ca fa)) (N := N_check_number) (ps := ps_check_number) (k := 8) (m := p_check_number) F sc fun cdv A outer s H E hr => ?_, hm, F.kp, hb⟩
  exact (rs_one (rs_if (rf_notT (rf_truth (rf_cal (by rfl) (by exact c_is_number) (takes_of rfl rfl rfl rfl) (hr.mono (by decide)) (by rfl) (rf_args_cons (rf_var (i := 1) (by rfl) (by first | exact .inl (by rfl) | exact .inr (.inl (by rfl)) | exact .inr (.inr (by rfl))) (by decide) (by decide)) (rf_args_cons (rf_var (i := 2) (by rfl) (by first | exact .inl (by rfl) | exact .inr (.inl (by rfl)) | exact .inr (.inr (by rfl))) (by decide) (by decide)) (rf_args_cons (rf_var (i := 3) (by rfl) (by first | exact .inl (by rfl) | exact .inr (.inl (by rfl)) | exact .inr (.inr (by rfl))) (by decide) (by decide)) rf_args_nil (by rfl)) (by rfl)) (by rfl)) (by decide) (by rfl) (by rfl)) (fun _ => rfl) (by rfl))) (rs_one (rs_rsr (by rfl) (by rfl) (by exact x_BadPart) (takes_of rfl rfl rfl rfl) (hr.mono (by decide)) (by rfl) (rf_args_cons (rf_var (i := 0) (by rfl) (by first | exact .inl (by rfl) | exact .inr (.inl (by rfl)) | exact .inr (.inr (by rfl))) (by decide) (by decide)) (rf_args_cons (rf_c pe_non (fun _ _ => .non)) rf_args_nil (by rfl)) (by rfl)) (by decide) (by rfl) (by rfl))) rs_nil))
def p_Faults_init : MS := (sSeq (sDrop (mCall (fun _ => r_check_number) 0 4 (mDs false [(mC (.str "many")), (mVar 1), (mC (.int 0)), (mC (.int 999))]))) (sSeq (sDrop (mCall (fun _ => r_check_number) 0 4 (mDs false [(mC (.str "ticks")), (mVar 2), (mC (.int 1)), (mC (.int 99))]))) (sSeq (sFldS gd "many" (mVar 0) (mVar 1)) (sFldS gd "ticks" (mVar 0) (mVar 2)))))
def i_Faults : List D → List D → OutI := runI 3 3 3 p_Faults_init
set_option maxHeartbeats 4000000 in
theorem mk_Faults (hT : Txt K mg cl fa) (ca : CA) (hca : ca.cl = cl) : Mkr (mkG gd K ca fa) P w mg base "Faults" 3 13 3 i_Faults := by
  subst hca
  have hC := clsF (fa := fa) hT ca rfl
  have c_check_number : Cal (mkG gd K ca fa) P w mg base "check_number" 9 4 r_check_number := ok_check_number hT ca rfl
  have sc := sc_Faults_init
  obtain ⟨f, fd, M, F, hb⟩ := hT.mk_3
  refine ⟨f, fd, ps_Faults_init, M, fnI_rf (g := (mkG gd K ca fa)) (N := N_Faults_init) (ps := ps_Faults_init) (k := 12) (c := 3) (m := p_Faults_init) F sc fun cdv A outer s H E hr => ?_, hb, hT.g_Faults⟩
  exact (rs_cons (rs_drop (rf_cal (by rfl) (by exact c_check_number) (takes_of rfl rfl rfl rfl) (hr.mono (by decide)) (by rfl) (rf_args_cons (rf_c pe_str (fun _ _ => .str _)) (rf_args_cons (rf_var (i := 1) (by rfl) (by first | exact .inl (by rfl) | exact .inr (.inl (by rfl)) | exact .inr (.inr (by rfl))) (by decide) (by decide)) (rf_args_cons (rf_c pe_int (fun _ _ => .int _)) (rf_args_cons (rf_c pe_int (fun _ _ => .int _)) rf_args_nil (by rfl)) (by rfl)) (by rfl)) (by rfl)) (by decide) (by rfl) (by rfl)) (by rfl)) (rs_cons (rs_drop (rf_cal (by rfl) (by exact c_check_number) (takes_of rfl rfl rfl rfl) (hr.mono (by decide)) (by rfl) (rf_args_cons (rf_c pe_str (fun _ _ => .str _)) (rf_args_cons (rf_var (i := 2) (by rfl) (by first | exact .inl (by rfl) | exact .inr (.inl (by rfl)) | exact .inr (.inr (by rfl))) (by decide) (by decide)) (rf_args_cons (rf_c pe_int (fun _ _ => .int _)) (rf_args_cons (rf_c pe_int (fun _ _ => .int _)) rf_args_nil (by rfl)) (by rfl)) (by rfl)) (by rfl)) (by decide) (by rfl) (by rfl)) (by rfl)) (rs_cons (rs_fld (by rfl) hC (rf_var (i := 1) (by rfl) (by first | exact .inl (by rfl) | exact .inr (.inl (by rfl)) | exact .inr (.inr (by rfl))) (by decide) (by decide)) (rf_var (i := 0) (by rfl) (by first | exact .inl (by rfl) | exact .inr (.inl (by rfl)) | exact .inr (.inr (by rfl))) (by decide) (by decide)) (by rfl)) (rs_one (rs_fld (by rfl) hC (rf_var (i := 2) (by rfl) (by first | exact .inl (by rfl) | exact .inr (.inl (by rfl)) | exact .inr (.inr (by rfl))) (by decide) (by decide)) (rf_var (i := 0) (by rfl) (by first | exact .inl (by rfl) | exact .inr (.inl (by rfl)) | exact .inr (.inr (by rfl))) (by decide) (by decide)) (by rfl))))))
def p_Faults_eq : MS := (sRet (mAndV [(mIsi gd (.c 3) (mVar 1)), (mBin eqvD (mTup (mDs false [(mFld gd "many" (mVar 0)), (mFld gd "ticks" (mVar 0))])) (mTup (mDs false [(mFld gd "many" (mVar 1)), (mFld gd "ticks" (mVar 1))])))]))
def r_Faults_eq : List D → List D → OutC := runFn 2 2 p_Faults_eq
set_option maxHeartbeats 4000000 in
theorem okm_Faults_eq (hT : Txt K mg cl fa) (ca : CA) (hca : ca.cl = cl) : ∃ fd, FnOk P w K mg base (L2.CX P w) 1 (fa 0) fd ps_Faults_eq (spF (mkG gd K ca fa) 2 r_Faults_eq) ∧ PySem.W.keepIn K (.ref (fa 0)) = true ∧ Binds K fd ps_Faults_eq [] := by
  subst hca
  have hC := clsF (fa := fa) hT ca rfl
  have sc := sc_Faults_eq
  obtain ⟨fd, F, hb⟩ := hT.fm_0
  refine ⟨fd, fn_rf (g := (mkG gd K ca fa)) (N := N_Faults_eq) (ps := ps_Faults_eq) (k := 0) (m := p_Faults_eq) F sc fun cdv A outer s H E hr => ?_, F.kp, hb⟩
  exact (rs_one (rs_ret (rf_andV (rf_isi (q := (.c 3)) (by rfl) hC (by rfl) (by exact hT.b_isinstance) (rf_var (i := 1) (by rfl) (by first | exact .inl (by rfl) | exact .inr (.inl (by rfl)) | exact .inr (.inr (by rfl))) (by decide) (by decide)) (rf_clsv (by rfl) (by exact hT.g_Faults) (by decide)) (by rfl) (by rfl) (by rfl)) (rf_andV1 (rf_cmp (op_eqD hr.units) ok_eqv (rf_tup (rf_args_cons (rf_fld (by rfl) hC (rf_var (i := 0) (by rfl) (by first | exact .inl (by rfl) | exact .inr (.inl (by rfl)) | exact .inr (.inr (by rfl))) (by decide) (by decide)) (by rfl)) (rf_args_cons (rf_fld (by rfl) hC (rf_var (i := 0) (by rfl) (by first | exact .inl (by rfl) | exact .inr (.inl (by rfl)) | exact .inr (.inr (by rfl))) (by decide) (by decide)) (by rfl)) rf_args_nil (by rfl)) (by rfl))) (rf_tup (rf_args_cons (rf_fld (by rfl) hC (rf_var (i := 1) (by rfl) (by first | exact .inl (by rfl) | exact .inr (.inl (by rfl)) | exact .inr (.inr (by rfl))) (by decide) (by decide)) (by rfl)) (rf_args_cons (rf_fld (by rfl) hC (rf_var (i := 1) (by rfl) (by first | exact .inl (by rfl) | exact .inr (.inl (by rfl)) | exact .inr (.inr (by rfl))) (by decide) (by decide)) (by rfl)) rf_args_nil (by rfl)) (by rfl))) (by rfl))))))
def p_check_faults : MS := (sIf (mNotT (mTV (mIsi gd (.c 3) (mVar 0)))) (sRaise 1 ["part", "place"] (mDs false [(mC (.str "faults")), (mC .non)])) sPass)
def r_check_faults : List D → List D → OutC := runFn 1 1 p_check_faults
set_option maxHeartbeats 4000000 in
theorem ok_check_faults (hT : Txt K mg cl fa) (ca : CA) (hca : ca.cl = cl) : Cal (mkG gd K ca fa) P w mg base "check_faults" 5 1 r_check_faults := by
  subst hca
  have hC := clsF (fa := fa) hT ca rfl
  have x_BadPart : Rsr (mkG gd K ca fa) P w mg base "BadPart" 1 1 ["part", "place"] := rsr_BadPart hT ca rfl
  have sc := sc_check_faults
  obtain ⟨f, fd, F, hm, hb⟩ := hT.f_check_faults
  refine ⟨f, fd, ps_check_faults, fn_rf (g := (mkG gd K ca fa)) (N := N_check_faults) (ps := ps_check_faults) (k := 4) (m := p_check_faults) F sc fun cdv A outer s H E hr => ?_, hm, F.kp, hb⟩
  exact (rs_one (rs_if (rf_notT (rf_truth (rf_isi (q := (.c 3)) (by rfl) hC (by rfl) (by exact hT.b_isinstance) (rf_var (i := 0) (by rfl) (by first | exact .inl (by rfl) | exact .inr (.inl (by rfl)) | exact .inr (.inr (by rfl))) (by decide) (by decide)) (rf_clsv (by rfl) (by exact hT.g_Faults) (by decide)) (by rfl) (by rfl) (by rfl)) (fun _ => rfl) (by rfl))) (rs_one (rs_rsr (by rfl) (by rfl) (by exact x_BadPart) (takes_of rfl rfl rfl rfl) (hr.mono (by decide)) (by rfl) (rf_args_cons (rf_c pe_str (fun _ _ => .str _)) (rf_args_cons (rf_c pe_non (fun _ _ => .non)) rf_args_nil (by rfl)) (by rfl)) (by decide) (by rfl) (by rfl))) rs_nil))
def p_check_falls : MS := (sSeq (sIf (mNotT (mTV (mCall (fun _ => r_is_row) 0 1 (mDs false [(mVar 0)])))) (sRaise 1 ["part", "place"] (mDs false [(mC (.str "falls")), (mC .non)])) sPass) (sSeq (sSet 1 (mC (.int 0))) (sFor (iEnm (mVar 0)) (tgTup 2 (tgsCons (tgName 2) (tgsCons (tgName 3) tgsNil))) (sSeq (sIf (mNotT (mTV (mCall (fun _ => r_is_number) 0 3 (mDs false [(mVar 3), (mVar 1), (mC (.int 99999))])))) (sRaise 1 ["part", "place"] (mDs false [(mC (.str "falls")), (mVar 2)])) sPass) (sSet 1 (mVar 3))))))
def r_check_falls : List D → List D → OutC := runFn 4 1 p_check_falls
set_option maxHeartbeats 4000000 in
theorem ok_check_falls (hT : Txt K mg cl fa) (ca : CA) (hca : ca.cl = cl) : Cal (mkG gd K ca fa) P w mg base "check_falls" 9 1 r_check_falls := by
  subst hca
  have hC := clsF (fa := fa) hT ca rfl
  have x_BadPart : Rsr (mkG gd K ca fa) P w mg base "BadPart" 1 1 ["part", "place"] := rsr_BadPart hT ca rfl
  have c_is_number : Cal (mkG gd K ca fa) P w mg base "is_number" 5 3 r_is_number := ok_is_number hT ca rfl
  have c_is_row : Cal (mkG gd K ca fa) P w mg base "is_row" 1 1 r_is_row := ok_is_row hT ca rfl
  have sc := sc_check_falls
  obtain ⟨f, fd, F, hm, hb⟩ := hT.f_check_falls
  refine ⟨f, fd, ps_check_falls, fn_rf (g := (mkG gd K ca fa)) (N := N_check_falls) (ps := ps_check_falls) (k := 8) (m := p_check_falls) F sc fun cdv A outer s H E hr => ?_, hm, F.kp, hb⟩
  exact (rs_cons (rs_if (rf_notT (rf_truth (rf_cal (by rfl) (by exact c_is_row) (takes_of rfl rfl rfl rfl) (hr.mono (by decide)) (by rfl) (rf_args_cons (rf_var (i := 0) (by rfl) (by first | exact .inl (by rfl) | exact .inr (.inl (by rfl)) | exact .inr (.inr (by rfl))) (by decide) (by decide)) rf_args_nil (by rfl)) (by decide) (by rfl) (by rfl)) (fun _ => rfl) (by rfl))) (rs_one (rs_rsr (by rfl) (by rfl) (by exact x_BadPart) (takes_of rfl rfl rfl rfl) (hr.mono (by decide)) (by rfl) (rf_args_cons (rf_c pe_str (fun _ _ => .str _)) (rf_args_cons (rf_c pe_non (fun _ _ => .non)) rf_args_nil (by rfl)) (by rfl)) (by decide) (by rfl) (by rfl))) rs_nil) (rs_cons (rs_set (i := 1) sc.nd (by rfl) (by first | exact .inl (by rfl) | exact .inr (by rfl)) (rf_c pe_int (fun _ _ => .int _)) (by rfl) (by first | exact .inl (by rfl) | exact .inr (by rfl))) (rs_one (rs_for (passes_of rfl) (by rfl) (ri_enum (by rfl) (by rfl) (by exact hT.b_enumerate) (rf_var (i := 0) (by rfl) (by first | exact .inl (by rfl) | exact .inr (.inl (by rfl)) | exact .inr (.inr (by rfl))) (by decide) (by decide)) (by rfl) (by rfl)) (rg_tup (by rfl) (by rfl) (rgs_cons (fun h1 h2 => pgs_cons h1 h2) (rg_name (i := 2) sc.nd (by rfl) (by first | exact .inl (by rfl) | exact .inr (by rfl)) (by first | exact .inl (by rfl) | exact .inr (by rfl))) (rgs_cons (fun h1 h2 => pgs_cons h1 h2) (rg_name (i := 3) sc.nd (by rfl) (by first | exact .inl (by rfl) | exact .inr (by rfl)) (by first | exact .inl (by rfl) | exact .inr (by rfl))) rgs_nil)) (by rfl) (by rfl)) (rs_cons (rs_if (rf_notT (rf_truth (rf_cal (by rfl) (by exact c_is_number) (takes_of rfl rfl rfl rfl) (hr.mono (by decide)) (by rfl) (rf_args_cons (rf_var (i := 3) (by rfl) (by first | exact .inl (by rfl) | exact .inr (.inl (by rfl)) | exact .inr (.inr (by rfl))) (by decide) (by decide)) (rf_args_cons (rf_var (i := 1) (by rfl) (by first | exact .inl (by rfl) | exact .inr (.inl (by rfl)) | exact .inr (.inr (by rfl))) (by decide) (by decide)) (rf_args_cons (rf_c pe_int (fun _ _ => .int _)) rf_args_nil (by rfl)) (by rfl)) (by rfl)) (by decide) (by rfl) (by rfl)) (fun _ => rfl) (by rfl))) (rs_one (rs_rsr (by rfl) (by rfl) (by exact x_BadPart) (takes_of rfl rfl rfl rfl) (hr.mono (by decide)) (by rfl) (rf_args_cons (rf_c pe_str (fun _ _ => .str _)) (rf_args_cons (rf_var (i := 2) (by rfl) (by first | exact .inl (by rfl) | exact .inr (.inl (by rfl)) | exact .inr (.inr (by rfl))) (by decide) (by decide)) rf_args_nil (by rfl)) (by rfl)) (by decide) (by rfl) (by rfl))) rs_nil) (rs_one (rs_set (i := 1) sc.nd (by rfl) (by first | exact .inl (by rfl) | exact .inr (by rfl)) (rf_var (i := 3) (by rfl) (by first | exact .inl (by rfl) | exact .inr (.inl (by rfl)) | exact .inr (.inr (by rfl))) (by decide) (by decide)) (by rfl) (by first | exact .inl (by rfl) | exact .inr (by rfl))))) (fun _ => rfl)))))
def p_within : MS := (sRet (m1 tupO (mVal (nLc (iH (mVar 0)) (tgName 3) (mTB (mBin gtD (mVar 3) (mBin subD (mVar 1) (mVar 2)))) (mVar 3) [3]))))
def r_within : List D → List D → OutC := runFn 4 3 p_within
set_option maxHeartbeats 4000000 in
theorem ok_within (hT : Txt K mg cl fa) (ca : CA) (hca : ca.cl = cl) : Cal (mkG gd K ca fa) P w mg base "within" 1 3 r_within := by
  subst hca
  have hC := clsF (fa := fa) hT ca rfl
  have sc := sc_within
  obtain ⟨f, fd, F, hm, hb⟩ := hT.f_within
  refine ⟨f, fd, ps_within, fn_rf (g := (mkG gd K ca fa)) (N := N_within) (ps := ps_within) (k := 0) (m := p_within) F sc fun cdv A outer s H E hr => ?_, hm, F.kp, hb⟩
  exact (rs_one (rs_ret (rf_t1 call_tuple_of ok_tuple (by rfl) (by exact hT.b_tuple) (by rfl) (rf_val (rn_lc (own := [("tick", 3)]) (by rfl) sc.nd (ri_seq (by rfl) (rf_var (i := 0) (by rfl) (by first | exact .inl (by rfl) | exact .inr (.inl (by rfl)) | exact .inr (.inr (by rfl))) (by decide) (by decide))) (blkOk_by (by rfl)) (by decide) (fun _ _ _ _ _ => (rg_name (i := 3) sc.nd (by rfl) (by first | exact .inl (by rfl) | exact .inr (by rfl)) (by first | exact .inl (by rfl) | exact .inr (by rfl)))) (fun _ _ _ _ _ => (rts_one (rf_cmpT op_gtD ok_gt (rf_var (i := 3) (by rfl) (by first | exact .inl (by rfl) | exact .inr (.inl (by rfl)) | exact .inr (.inr (by rfl))) (by decide) (by decide)) (rf_bin op_sub ok_sub (rf_var (i := 1) (by rfl) (by first | exact .inl (by rfl) | exact .inr (.inl (by rfl)) | exact .inr (.inr (by rfl))) (by decide) (by decide)) (rf_var (i := 2) (by rfl) (by first | exact .inl (by rfl) | exact .inr (.inl (by rfl)) | exact .inr (.inr (by rfl))) (by decide) (by decide))) (by rfl)))) (fun _ _ _ _ _ => (rf_var (i := 3) (by rfl) (by first | exact .inl (by rfl) | exact .inr (.inl (by rfl)) | exact .inr (.inr (by rfl))) (by decide) (by decide))) (fun _ => rfl))) (by decide) (by decide) (by rfl) (by rfl))))
def p_are_within : MS := (sSeq (sDrop (mCall (fun _ => r_check_faults) 0 1 (mDs false [(mVar 0)]))) (sSeq (sDrop (mCall (fun _ => r_check_falls) 0 1 (mDs false [(mVar 1)]))) (sRet (m1 allO (mVal (nLc (iEnm (mVar 1)) (tgTup 2 (tgsCons (tgName 2) (tgsCons (tgName 3) tgsNil))) mYes (mBin leD (m1 lenO (mCall (fun _ => r_within) 0 3 (mDs false [(mSlice (mVal (n1 lstO (mVar 1))) none (some (mBin addD (mVar 2) (mC (.int 1))))), (mVar 3), (mFld gd "ticks" (mVar 0))]))) (mFld gd "many" (mVar 0))) [2, 3]))))))
def r_are_within : List D → List D → OutC := runFn 4 2 p_are_within
set_option maxHeartbeats 4000000 in
theorem ok_are_within (hT : Txt K mg cl fa) (ca : CA) (hca : ca.cl = cl) : Cal (mkG gd K ca fa) P w mg base "are_within" 13 2 r_are_within := by
  subst hca
  have hC := clsF (fa := fa) hT ca rfl
  have c_check_falls : Cal (mkG gd K ca fa) P w mg base "check_falls" 9 1 r_check_falls := ok_check_falls hT ca rfl
  have c_check_faults : Cal (mkG gd K ca fa) P w mg base "check_faults" 5 1 r_check_faults := ok_check_faults hT ca rfl
  have c_within : Cal (mkG gd K ca fa) P w mg base "within" 1 3 r_within := ok_within hT ca rfl
  have sc := sc_are_within
  obtain ⟨f, fd, F, hm, hb⟩ := hT.f_are_within
  refine ⟨f, fd, ps_are_within, fn_rf (g := (mkG gd K ca fa)) (N := N_are_within) (ps := ps_are_within) (k := 12) (m := p_are_within) F sc fun cdv A outer s H E hr => ?_, hm, F.kp, hb⟩
  exact (rs_cons (rs_drop (rf_cal (by rfl) (by exact c_check_faults) (takes_of rfl rfl rfl rfl) (hr.mono (by decide)) (by rfl) (rf_args_cons (rf_var (i := 0) (by rfl) (by first | exact .inl (by rfl) | exact .inr (.inl (by rfl)) | exact .inr (.inr (by rfl))) (by decide) (by decide)) rf_args_nil (by rfl)) (by decide) (by rfl) (by rfl)) (by rfl)) (rs_cons (rs_drop (rf_cal (by rfl) (by exact c_check_falls) (takes_of rfl rfl rfl rfl) (hr.mono (by decide)) (by rfl) (rf_args_cons (rf_var (i := 1) (by rfl) (by first | exact .inl (by rfl) | exact .inr (.inl (by rfl)) | exact .inr (.inr (by rfl))) (by decide) (by decide)) rf_args_nil (by rfl)) (by decide) (by rfl) (by rfl)) (by rfl)) (rs_one (rs_ret (rf_b1 (cr_all (by rfl)) ok_all (by rfl) (by exact hT.b_all) (by rfl) (rf_val (rn_lc (own := [("place", 2), ("tick", 3)]) (by rfl) sc.nd (ri_enum (by rfl) (by rfl) (by exact hT.b_enumerate) (rf_var (i := 1) (by rfl) (by first | exact .inl (by rfl) | exact .inr (.inl (by rfl)) | exact .inr (.inr (by rfl))) (by decide) (by decide)) (by rfl) (by rfl)) (blkOk_by (by rfl)) (by decide) (fun _ _ _ _ _ => (rg_tup (by rfl) (by rfl) (rgs_cons (fun h1 h2 => pgs_cons h1 h2) (rg_name (i := 2) sc.nd (by rfl) (by first | exact .inl (by rfl) | exact .inr (by rfl)) (by first | exact .inl (by rfl) | exact .inr (by rfl))) (rgs_cons (fun h1 h2 => pgs_cons h1 h2) (rg_name (i := 3) sc.nd (by rfl) (by first | exact .inl (by rfl) | exact .inr (by rfl)) (by first | exact .inl (by rfl) | exact .inr (by rfl))) rgs_nil)) (by rfl) (by rfl))) (fun _ _ _ _ _ => rts_nil) (fun _ _ _ _ _ => (rf_cmp op_le ok_le (rf_b1 cr_lenD ok_len (by rfl) (by exact hT.b_len) (by rfl) (rf_cal (by rfl) (by exact c_within) takes_none5 (hr.mono (by decide)) (by rfl) (rf_args_cons (rf_slice (by rfl) (rf_val (rn_t1 call_list_of ok_list (by rfl) (by exact hT.b_list) (by rfl) (rf_var (i := 1) (by rfl) (by first | exact .inl (by rfl) | exact .inr (.inl (by rfl)) | exact .inr (.inr (by rfl))) (by decide) (by decide)) (by decide) (by decide) (by rfl) (by rfl))) rf_part0 (rf_part (rf_bin op_addD ok_add (rf_var (i := 2) (by rfl) (by first | exact .inl (by rfl) | exact .inr (.inl (by rfl)) | exact .inr (.inr (by rfl))) (by decide) (by decide)) (rf_c pe_int (fun _ _ => .int _))))) (rf_args_cons (rf_var (i := 3) (by rfl) (by first | exact .inl (by rfl) | exact .inr (.inl (by rfl)) | exact .inr (.inr (by rfl))) (by decide) (by decide)) (rf_args_cons (rf_fld (by rfl) hC (rf_var (i := 0) (by rfl) (by first | exact .inl (by rfl) | exact .inr (.inl (by rfl)) | exact .inr (.inr (by rfl))) (by decide) (by decide)) (by rfl)) rf_args_nil (by rfl)) (by rfl)) (by rfl)) (by decide) (by rfl) (by rfl)) (by decide) (by decide) (by rfl) (by rfl)) (rf_fld (by rfl) hC (rf_var (i := 0) (by rfl) (by first | exact .inl (by rfl) | exact .inr (.inl (by rfl)) | exact .inr (.inr (by rfl))) (by decide) (by decide)) (by rfl)) (by rfl))) (fun _ => rfl))) (by decide) (by decide) (by rfl) (by rfl))))))
def p_first_beyond : MS := (sSeq (sDrop (mCall (fun _ => r_check_number) 0 4 (mDs false [(mC (.str "most")), (mVar 0), (mC (.int 0)), (mC (.int 99))]))) (sSeq (sDrop (mCall (fun _ => r_check_number) 0 4 (mDs false [(mC (.str "ticks")), (mVar 1), (mC (.int 1)), (mC (.int 99))]))) (sSeq (sDrop (mCall (fun _ => r_check_falls) 0 1 (mDs false [(mVar 2)]))) (sSeq (sFor (iEnm (mVar 2)) (tgTup 2 (tgsCons (tgName 3) (tgsCons (tgName 4) tgsNil))) (sIf (mTB (mBin gtD (m1 lenO (mCall (fun _ => r_within) 0 3 (mDs false [(mSlice (mVal (n1 lstO (mVar 2))) none (some (mBin addD (mVar 3) (mC (.int 1))))), (mVar 4), (mVar 1)]))) (mVar 0))) (sRet (mVar 3)) sPass)) (sRet (mC .non))))))
def r_first_beyond : List D → List D → OutC := runFn 5 3 p_first_beyond
set_option maxHeartbeats 4000000 in
theorem ok_first_beyond (hT : Txt K mg cl fa) (ca : CA) (hca : ca.cl = cl) : Cal (mkG gd K ca fa) P w mg base "first_beyond" 13 3 r_first_beyond := by
  subst hca
  have hC := clsF (fa := fa) hT ca rfl
  have c_check_falls : Cal (mkG gd K ca fa) P w mg base "check_falls" 9 1 r_check_falls := ok_check_falls hT ca rfl
  have c_check_number : Cal (mkG gd K ca fa) P w mg base "check_number" 9 4 r_check_number := ok_check_number hT ca rfl
  have c_within : Cal (mkG gd K ca fa) P w mg base "within" 1 3 r_within := ok_within hT ca rfl
  have sc := sc_first_beyond
  obtain ⟨f, fd, F, hm, hb⟩ := hT.f_first_beyond
  refine ⟨f, fd, ps_first_beyond, fn_rf (g := (mkG gd K ca fa)) (N := N_first_beyond) (ps := ps_first_beyond) (k := 12) (m := p_first_beyond) F sc fun cdv A outer s H E hr => ?_, hm, F.kp, hb⟩
  exact (rs_cons (rs_drop (rf_cal (by rfl) (by exact c_check_number) (takes_of rfl rfl rfl rfl) (hr.mono (by decide)) (by rfl) (rf_args_cons (rf_c pe_str (fun _ _ => .str _)) (rf_args_cons (rf_var (i := 0) (by rfl) (by first | exact .inl (by rfl) | exact .inr (.inl (by rfl)) | exact .inr (.inr (by rfl))) (by decide) (by decide)) (rf_args_cons (rf_c pe_int (fun _ _ => .int _)) (rf_args_cons (rf_c pe_int (fun _ _ => .int _)) rf_args_nil (by rfl)) (by rfl)) (by rfl)) (by rfl)) (by decide) (by rfl) (by rfl)) (by rfl)) (rs_cons (rs_drop (rf_cal (by rfl) (by exact c_check_number) (takes_of rfl rfl rfl rfl) (hr.mono (by decide)) (by rfl) (rf_args_cons (rf_c pe_str (fun _ _ => .str _)) (rf_args_cons (rf_var (i := 1) (by rfl) (by first | exact .inl (by rfl) | exact .inr (.inl (by rfl)) | exact .inr (.inr (by rfl))) (by decide) (by decide)) (rf_args_cons (rf_c pe_int (fun _ _ => .int _)) (rf_args_cons (rf_c pe_int (fun _ _ => .int _)) rf_args_nil (by rfl)) (by rfl)) (by rfl)) (by rfl)) (by decide) (by rfl) (by rfl)) (by rfl)) (rs_cons (rs_drop (rf_cal (by rfl) (by exact c_check_falls) (takes_of rfl rfl rfl rfl) (hr.mono (by decide)) (by rfl) (rf_args_cons (rf_var (i := 2) (by rfl) (by first | exact .inl (by rfl) | exact .inr (.inl (by rfl)) | exact .inr (.inr (by rfl))) (by decide) (by decide)) rf_args_nil (by rfl)) (by decide) (by rfl) (by rfl)) (by rfl)) (rs_cons (rs_for (passes_of rfl) (by rfl) (ri_enum (by rfl) (by rfl) (by exact hT.b_enumerate) (rf_var (i := 2) (by rfl) (by first | exact .inl (by rfl) | exact .inr (.inl (by rfl)) | exact .inr (.inr (by rfl))) (by decide) (by decide)) (by rfl) (by rfl)) (rg_tup (by rfl) (by rfl) (rgs_cons (fun h1 h2 => pgs_cons h1 h2) (rg_name (i := 3) sc.nd (by rfl) (by first | exact .inl (by rfl) | exact .inr (by rfl)) (by first | exact .inl (by rfl) | exact .inr (by rfl))) (rgs_cons (fun h1 h2 => pgs_cons h1 h2) (rg_name (i := 4) sc.nd (by rfl) (by first | exact .inl (by rfl) | exact .inr (by rfl)) (by first | exact .inl (by rfl) | exact .inr (by rfl))) rgs_nil)) (by rfl) (by rfl)) (rs_one (rs_if (rf_cmpT op_gtD ok_gt (rf_b1 cr_lenD ok_len (by rfl) (by exact hT.b_len) (by rfl) (rf_cal (by rfl) (by exact c_within) (takes_of rfl rfl rfl rfl) (hr.mono (by decide)) (by rfl) (rf_args_cons (rf_slice (by rfl) (rf_val (rn_t1 call_list_of ok_list (by rfl) (by exact hT.b_list) (by rfl) (rf_var (i := 2) (by rfl) (by first | exact .inl (by rfl) | exact .inr (.inl (by rfl)) | exact .inr (.inr (by rfl))) (by decide) (by decide)) (by decide) (by decide) (by rfl) (by rfl))) rf_part0 (rf_part (rf_bin op_addD ok_add (rf_var (i := 3) (by rfl) (by first | exact .inl (by rfl) | exact .inr (.inl (by rfl)) | exact .inr (.inr (by rfl))) (by decide) (by decide)) (rf_c pe_int (fun _ _ => .int _))))) (rf_args_cons (rf_var (i := 4) (by rfl) (by first | exact .inl (by rfl) | exact .inr (.inl (by rfl)) | exact .inr (.inr (by rfl))) (by decide) (by decide)) (rf_args_cons (rf_var (i := 1) (by rfl) (by first | exact .inl (by rfl) | exact .inr (.inl (by rfl)) | exact .inr (.inr (by rfl))) (by decide) (by decide)) rf_args_nil (by rfl)) (by rfl)) (by rfl)) (by decide) (by rfl) (by rfl)) (by decide) (by decide) (by rfl) (by rfl)) (rf_var (i := 0) (by rfl) (by first | exact .inl (by rfl) | exact .inr (.inl (by rfl)) | exact .inr (.inr (by rfl))) (by decide) (by decide)) (by rfl)) (rs_one (rs_ret (rf_var (i := 3) (by rfl) (by first | exact .inl (by rfl) | exact .inr (.inl (by rfl)) | exact .inr (.inr (by rfl))) (by decide) (by decide)))) rs_nil)) (fun _ => rfl)) (rs_one (rs_ret (rf_c pe_non (fun _ _ => .non))))))))
def p_soonest : MS := (sSeq (sDrop (mCall (fun _ => r_check_faults) 0 1 (mDs false [(mVar 0)]))) (sSeq (sDrop (mCall (fun _ => r_check_number) 0 4 (mDs false [(mC (.str "many")), (mVar 1), (mC (.int 0)), (mC (.int 999))]))) (sSeq (sIf (mTB (mBin eqvD (mFld gd "many" (mVar 0)) (mC (.int 0)))) (sRet (mIf (mTB (mBin eqvD (mVar 1) (mC (.int 0)))) (mLst (mDs false [])) (mC .non))) sPass) (sRet (mVal (nLc (iR1 (mDs false [(mVar 1)])) (tgName 2) mYes (mBin mulD (mBin fdivD (mVar 2) (mFld gd "many" (mVar 0))) (mFld gd "ticks" (mVar 0))) [2]))))))
def r_soonest : List D → List D → OutC := runFn 3 2 p_soonest
set_option maxHeartbeats 4000000 in
theorem ok_soonest (hT : Txt K mg cl fa) (ca : CA) (hca : ca.cl = cl) : Cal (mkG gd K ca fa) P w mg base "soonest" 13 2 r_soonest := by
  subst hca
  have hC := clsF (fa := fa) hT ca rfl
  have c_check_faults : Cal (mkG gd K ca fa) P w mg base "check_faults" 5 1 r_check_faults := ok_check_faults hT ca rfl
  have c_check_number : Cal (mkG gd K ca fa) P w mg base "check_number" 9 4 r_check_number := ok_check_number hT ca rfl
  have sc := sc_soonest
  obtain ⟨f, fd, F, hm, hb⟩ := hT.f_soonest
  refine ⟨f, fd, ps_soonest, fn_rf (g := (mkG gd K ca fa)) (N := N_soonest) (ps := ps_soonest) (k := 12) (m := p_soonest) F sc fun cdv A outer s H E hr => ?_, hm, F.kp, hb⟩
  exact (rs_cons (rs_drop (rf_cal (by rfl) (by exact c_check_faults) (takes_of rfl rfl rfl rfl) (hr.mono (by decide)) (by rfl) (rf_args_cons (rf_var (i := 0) (by rfl) (by first | exact .inl (by rfl) | exact .inr (.inl (by rfl)) | exact .inr (.inr (by rfl))) (by decide) (by decide)) rf_args_nil (by rfl)) (by decide) (by rfl) (by rfl)) (by rfl)) (rs_cons (rs_drop (rf_cal (by rfl) (by exact c_check_number) (takes_of rfl rfl rfl rfl) (hr.mono (by decide)) (by rfl) (rf_args_cons (rf_c pe_str (fun _ _ => .str _)) (rf_args_cons (rf_var (i := 1) (by rfl) (by first | exact .inl (by rfl) | exact .inr (.inl (by rfl)) | exact .inr (.inr (by rfl))) (by decide) (by decide)) (rf_args_cons (rf_c pe_int (fun _ _ => .int _)) (rf_args_cons (rf_c pe_int (fun _ _ => .int _)) rf_args_nil (by rfl)) (by rfl)) (by rfl)) (by rfl)) (by decide) (by rfl) (by rfl)) (by rfl)) (rs_cons (rs_if (rf_cmpT (op_eqD hr.units) ok_eqv (rf_fld (by rfl) hC (rf_var (i := 0) (by rfl) (by first | exact .inl (by rfl) | exact .inr (.inl (by rfl)) | exact .inr (.inr (by rfl))) (by decide) (by decide)) (by rfl)) (rf_c pe_int (fun _ _ => .int _)) (by rfl)) (rs_one (rs_ret (rf_ifE (rf_cmpT (op_eqD hr.units) ok_eqv (rf_var (i := 1) (by rfl) (by first | exact .inl (by rfl) | exact .inr (.inl (by rfl)) | exact .inr (.inr (by rfl))) (by decide) (by decide)) (rf_c pe_int (fun _ _ => .int _)) (by rfl)) (rf_lst rf_args_nil) (rf_c pe_non (fun _ _ => .non))))) rs_nil) (rs_one (rs_ret (rf_val (rn_lc (own := [("number", 2)]) (by rfl) sc.nd (ri_r1 (by rfl) (by exact hT.b_range) (rf_args_cons (rf_var (i := 1) (by rfl) (by first | exact .inl (by rfl) | exact .inr (.inl (by rfl)) | exact .inr (.inr (by rfl))) (by decide) (by decide)) rf_args_nil (by rfl)) (by rfl)) (blkOk_by (by rfl)) (by decide) (fun _ _ _ _ _ => (rg_name (i := 2) sc.nd (by rfl) (by first | exact .inl (by rfl) | exact .inr (by rfl)) (by first | exact .inl (by rfl) | exact .inr (by rfl)))) (fun _ _ _ _ _ => rts_nil) (fun _ _ _ _ _ => (rf_bin op_mulD ok_mul (rf_bin op_fdiv ok_fdiv (rf_var (i := 2) (by rfl) (by first | exact .inl (by rfl) | exact .inr (.inl (by rfl)) | exact .inr (.inr (by rfl))) (by decide) (by decide)) (rf_fld (by rfl) hC (rf_var (i := 0) (by rfl) (by first | exact .inl (by rfl) | exact .inr (.inl (by rfl)) | exact .inr (.inr (by rfl))) (by decide) (by decide)) (by rfl))) (rf_fld (by rfl) hC (rf_var (i := 0) (by rfl) (by first | exact .inl (by rfl) | exact .inr (.inl (by rfl)) | exact .inr (.inr (by rfl))) (by decide) (by decide)) (by rfl)))) (fun _ => rfl))))))))
def p_span_of : MS := (sSeq (sSet 2 (mCall (fun _ => r_soonest) 0 2 (mDs false [(mVar 0), (mVar 1)]))) (sRet (mIf (mTB (mBin isnD (mVar 2) (mC .non))) (mC .non) (mIf (mTB (mBin nevD (mVar 2) (mLst (mDs false [])))) (mBin subD (mBin itemD (mVar 2) (m1 negO (mC (.int 1)))) (mBin itemD (mVar 2) (mC (.int 0)))) (mC (.int 0))))))
def r_span_of : List D → List D → OutC := runFn 3 2 p_span_of
set_option maxHeartbeats 4000000 in
theorem ok_span_of (hT : Txt K mg cl fa) (ca : CA) (hca : ca.cl = cl) : Cal (mkG gd K ca fa) P w mg base "span_of" 17 2 r_span_of := by
  subst hca
  have hC := clsF (fa := fa) hT ca rfl
  have c_soonest : Cal (mkG gd K ca fa) P w mg base "soonest" 13 2 r_soonest := ok_soonest hT ca rfl
  have sc := sc_span_of
  obtain ⟨f, fd, F, hm, hb⟩ := hT.f_span_of
  refine ⟨f, fd, ps_span_of, fn_rf (g := (mkG gd K ca fa)) (N := N_span_of) (ps := ps_span_of) (k := 16) (m := p_span_of) F sc fun cdv A outer s H E hr => ?_, hm, F.kp, hb⟩
  exact (rs_cons (rs_set (i := 2) sc.nd (by rfl) (by first | exact .inl (by rfl) | exact .inr (by rfl)) (rf_cal (by rfl) (by exact c_soonest) (takes_of rfl rfl rfl rfl) (hr.mono (by decide)) (by rfl) (rf_args_cons (rf_var (i := 0) (by rfl) (by first | exact .inl (by rfl) | exact .inr (.inl (by rfl)) | exact .inr (.inr (by rfl))) (by decide) (by decide)) (rf_args_cons (rf_var (i := 1) (by rfl) (by first | exact .inl (by rfl) | exact .inr (.inl (by rfl)) | exact .inr (.inr (by rfl))) (by decide) (by decide)) rf_args_nil (by rfl)) (by rfl)) (by decide) (by rfl) (by rfl)) (by rfl) (by first | exact .inl (by rfl) | exact .inr (by rfl))) (rs_one (rs_ret (rf_ifE (rf_cmpT op_isD ok_isn (rf_var (i := 2) (by rfl) (by first | exact .inl (by rfl) | exact .inr (.inl (by rfl)) | exact .inr (.inr (by rfl))) (by decide) (by decide)) (rf_c pe_non (fun _ _ => .non)) (by rfl)) (rf_c pe_non (fun _ _ => .non)) (rf_ifE (rf_cmpT (op_neD hr.units) ok_nev (rf_var (i := 2) (by rfl) (by first | exact .inl (by rfl) | exact .inr (.inl (by rfl)) | exact .inr (.inr (by rfl))) (by decide) (by decide)) (rf_lst rf_args_nil) (by rfl)) (rf_bin op_sub ok_sub (rf_sub (by rfl) (hu_of hr) (rf_var (i := 2) (by rfl) (by first | exact .inl (by rfl) | exact .inr (.inl (by rfl)) | exact .inr (.inr (by rfl))) (by decide) (by decide)) (rf_neg (rf_c pe_int (fun _ _ => .int _))) (fun _ _ => rfl)) (rf_sub (by rfl) (hu_of hr) (rf_var (i := 2) (by rfl) (by first | exact .inl (by rfl) | exact .inr (.inl (by rfl)) | exact .inr (.inr (by rfl))) (by decide) (by decide)) (rf_c pe_int (fun _ _ => .int _)) (fun _ _ => rfl))) (rf_c pe_int (fun _ _ => .int _)))))))
def p_Bears_init : MS := (sFldS gd "many" (mVar 0) (mVar 1))
def i_Bears : List D → List D → OutI := runI 2 2 4 p_Bears_init
set_option maxHeartbeats 4000000 in
theorem mk_Bears (hT : Txt K mg cl fa) (ca : CA) (hca : ca.cl = cl) : Mkr (mkG gd K ca fa) P w mg base "Bears" 4 1 2 i_Bears := by
  subst hca
  have hC := clsF (fa := fa) hT ca rfl
  have sc := sc_Bears_init
  obtain ⟨f, fd, M, F, hb⟩ := hT.mk_4
  refine ⟨f, fd, ps_Bears_init, M, fnI_rf (g := (mkG gd K ca fa)) (N := N_Bears_init) (ps := ps_Bears_init) (k := 0) (c := 4) (m := p_Bears_init) F sc fun cdv A outer s H E hr => ?_, hb, hT.g_Bears⟩
  exact (rs_one (rs_fld (by rfl) hC (rf_var (i := 1) (by rfl) (by first | exact .inl (by rfl) | exact .inr (.inl (by rfl)) | exact .inr (.inr (by rfl))) (by decide) (by decide)) (rf_var (i := 0) (by rfl) (by first | exact .inl (by rfl) | exact .inr (.inl (by rfl)) | exact .inr (.inr (by rfl))) (by decide) (by decide)) (by rfl)))
def p_Bears_bool : MS := (sRet (mC (.bl true)))
def r_Bears_bool : List D → List D → OutC := runFn 1 1 p_Bears_bool
set_option maxHeartbeats 4000000 in
theorem okm_Bears_bool (hT : Txt K mg cl fa) (ca : CA) (hca : ca.cl = cl) : ∃ fd, FnOk P w K mg base (L2.CX P w) 1 (fa 1) fd ps_Bears_bool (spF (mkG gd K ca fa) 1 r_Bears_bool) ∧ PySem.W.keepIn K (.ref (fa 1)) = true ∧ Binds K fd ps_Bears_bool [] := by
  subst hca
  have hC := clsF (fa := fa) hT ca rfl
  have sc := sc_Bears_bool
  obtain ⟨fd, F, hb⟩ := hT.fm_1
  refine ⟨fd, fn_rf (g := (mkG gd K ca fa)) (N := N_Bears_bool) (ps := ps_Bears_bool) (k := 0) (m := p_Bears_bool) F sc fun cdv A outer s H E hr => ?_, F.kp, hb⟩
  exact (rs_one (rs_ret (rf_c pe_bl (fun _ _ => .bl _))))
def p_Bears_eq : MS := (sRet (mAndV [(mIsi gd (.c 4) (mVar 1)), (mBin eqvD (mFld gd "many" (mVar 0)) (mFld gd "many" (mVar 1)))]))
def r_Bears_eq : List D → List D → OutC := runFn 2 2 p_Bears_eq
set_option maxHeartbeats 4000000 in
theorem okm_Bears_eq (hT : Txt K mg cl fa) (ca : CA) (hca : ca.cl = cl) : ∃ fd, FnOk P w K mg base (L2.CX P w) 1 (fa 2) fd ps_Bears_eq (spF (mkG gd K ca fa) 2 r_Bears_eq) ∧ PySem.W.keepIn K (.ref (fa 2)) = true ∧ Binds K fd ps_Bears_eq [] := by
  subst hca
  have hC := clsF (fa := fa) hT ca rfl
  have sc := sc_Bears_eq
  obtain ⟨fd, F, hb⟩ := hT.fm_2
  refine ⟨fd, fn_rf (g := (mkG gd K ca fa)) (N := N_Bears_eq) (ps := ps_Bears_eq) (k := 0) (m := p_Bears_eq) F sc fun cdv A outer s H E hr => ?_, F.kp, hb⟩
  exact (rs_one (rs_ret (rf_andV (rf_isi (q := (.c 4)) (by rfl) hC (by rfl) (by exact hT.b_isinstance) (rf_var (i := 1) (by rfl) (by first | exact .inl (by rfl) | exact .inr (.inl (by rfl)) | exact .inr (.inr (by rfl))) (by decide) (by decide)) (rf_clsv (by rfl) (by exact hT.g_Bears) (by decide)) (by rfl) (by rfl) (by rfl)) (rf_andV1 (rf_cmp (op_eqD hr.units) ok_eqv (rf_fld (by rfl) hC (rf_var (i := 0) (by rfl) (by first | exact .inl (by rfl) | exact .inr (.inl (by rfl)) | exact .inr (.inr (by rfl))) (by decide) (by decide)) (by rfl)) (rf_fld (by rfl) hC (rf_var (i := 1) (by rfl) (by first | exact .inl (by rfl) | exact .inr (.inl (by rfl)) | exact .inr (.inr (by rfl))) (by decide) (by decide)) (by rfl)) (by rfl))))))
def p_Passed_eq : MS := (sRet (mAndV [(mIsi gd (.c 5) (mVar 1)), (mBin eqvD (mFld gd "falls" (mVar 0)) (mFld gd "falls" (mVar 1)))]))
def r_Passed_eq : List D → List D → OutC := runFn 2 2 p_Passed_eq
set_option maxHeartbeats 4000000 in
theorem okm_Passed_eq (hT : Txt K mg cl fa) (ca : CA) (hca : ca.cl = cl) : ∃ fd, FnOk P w K mg base (L2.CX P w) 1 (fa 5) fd ps_Passed_eq (spF (mkG gd K ca fa) 2 r_Passed_eq) ∧ PySem.W.keepIn K (.ref (fa 5)) = true ∧ Binds K fd ps_Passed_eq [] := by
  subst hca
  have hC := clsF (fa := fa) hT ca rfl
  have sc := sc_Passed_eq
  obtain ⟨fd, F, hb⟩ := hT.fm_5
  refine ⟨fd, fn_rf (g := (mkG gd K ca fa)) (N := N_Passed_eq) (ps := ps_Passed_eq) (k := 0) (m := p_Passed_eq) F sc fun cdv A outer s H E hr => ?_, F.kp, hb⟩
  exact (rs_one (rs_ret (rf_andV (rf_isi (q := (.c 5)) (by rfl) hC (by rfl) (by exact hT.b_isinstance) (rf_var (i := 1) (by rfl) (by first | exact .inl (by rfl) | exact .inr (.inl (by rfl)) | exact .inr (.inr (by rfl))) (by decide) (by decide)) (rf_clsv (by rfl) (by exact hT.g_Passed) (by decide)) (by rfl) (by rfl) (by rfl)) (rf_andV1 (rf_cmp (op_eqD hr.units) ok_eqv (rf_fld (by rfl) hC (rf_var (i := 0) (by rfl) (by first | exact .inl (by rfl) | exact .inr (.inl (by rfl)) | exact .inr (.inr (by rfl))) (by decide) (by decide)) (by rfl)) (rf_fld (by rfl) hC (rf_var (i := 1) (by rfl) (by first | exact .inl (by rfl) | exact .inr (.inl (by rfl)) | exact .inr (.inr (by rfl))) (by decide) (by decide)) (by rfl)) (by rfl))))))
def p_Passed_init : MS := (sFldS gd "falls" (mVar 0) (m1 tupO (mVar 1)))
def i_Passed : List D → List D → OutI := runI 2 2 5 p_Passed_init
set_option maxHeartbeats 4000000 in
theorem mk_Passed (hT : Txt K mg cl fa) (ca : CA) (hca : ca.cl = cl) : Mkr (mkG gd K ca fa) P w mg base "Passed" 5 1 2 i_Passed := by
  subst hca
  have hC := clsF (fa := fa) hT ca rfl
  have sc := sc_Passed_init
  obtain ⟨f, fd, M, F, hb⟩ := hT.mk_5
  refine ⟨f, fd, ps_Passed_init, M, fnI_rf (g := (mkG gd K ca fa)) (N := N_Passed_init) (ps := ps_Passed_init) (k := 0) (c := 5) (m := p_Passed_init) F sc fun cdv A outer s H E hr => ?_, hb, hT.g_Passed⟩
  exact (rs_one (rs_fld (by rfl) hC (rf_t1 call_tuple_of ok_tuple (by rfl) (by exact hT.b_tuple) (by rfl) (rf_var (i := 1) (by rfl) (by first | exact .inl (by rfl) | exact .inr (.inl (by rfl)) | exact .inr (.inr (by rfl))) (by decide) (by decide)) (by decide) (by decide) (by rfl) (by rfl)) (rf_var (i := 0) (by rfl) (by first | exact .inl (by rfl) | exact .inr (.inl (by rfl)) | exact .inr (.inr (by rfl))) (by decide) (by decide)) (by rfl)))
def p_check_bound : MS := (sSeq (sDrop (mCall (fun _ => r_check_number) 0 4 (mDs false [(mC (.str "most")), (mVar 0), (mC (.int 0)), (mC (.int 99))]))) (sSeq (sDrop (mCall (fun _ => r_check_number) 0 4 (mDs false [(mC (.str "ticks")), (mVar 1), (mC (.int 1)), (mC (.int 99))]))) (sDrop (mCall (fun _ => r_check_faults) 0 1 (mDs false [(mVar 2)])))))
def r_check_bound : List D → List D → OutC := runFn 3 3 p_check_bound
set_option maxHeartbeats 4000000 in
theorem ok_check_bound (hT : Txt K mg cl fa) (ca : CA) (hca : ca.cl = cl) : Cal (mkG gd K ca fa) P w mg base "check_bound" 13 3 r_check_bound := by
  subst hca
  have hC := clsF (fa := fa) hT ca rfl
  have c_check_faults : Cal (mkG gd K ca fa) P w mg base "check_faults" 5 1 r_check_faults := ok_check_faults hT ca rfl
  have c_check_number : Cal (mkG gd K ca fa) P w mg base "check_number" 9 4 r_check_number := ok_check_number hT ca rfl
  have sc := sc_check_bound
  obtain ⟨f, fd, F, hm, hb⟩ := hT.f_check_bound
  refine ⟨f, fd, ps_check_bound, fn_rf (g := (mkG gd K ca fa)) (N := N_check_bound) (ps := ps_check_bound) (k := 12) (m := p_check_bound) F sc fun cdv A outer s H E hr => ?_, hm, F.kp, hb⟩
  exact (rs_cons (rs_drop (rf_cal (by rfl) (by exact c_check_number) (takes_of rfl rfl rfl rfl) (hr.mono (by decide)) (by rfl) (rf_args_cons (rf_c pe_str (fun _ _ => .str _)) (rf_args_cons (rf_var (i := 0) (by rfl) (by first | exact .inl (by rfl) | exact .inr (.inl (by rfl)) | exact .inr (.inr (by rfl))) (by decide) (by decide)) (rf_args_cons (rf_c pe_int (fun _ _ => .int _)) (rf_args_cons (rf_c pe_int (fun _ _ => .int _)) rf_args_nil (by rfl)) (by rfl)) (by rfl)) (by rfl)) (by decide) (by rfl) (by rfl)) (by rfl)) (rs_cons (rs_drop (rf_cal (by rfl) (by exact c_check_number) (takes_of rfl rfl rfl rfl) (hr.mono (by decide)) (by rfl) (rf_args_cons (rf_c pe_str (fun _ _ => .str _)) (rf_args_cons (rf_var (i := 1) (by rfl) (by first | exact .inl (by rfl) | exact .inr (.inl (by rfl)) | exact .inr (.inr (by rfl))) (by decide) (by decide)) (rf_args_cons (rf_c pe_int (fun _ _ => .int _)) (rf_args_cons (rf_c pe_int (fun _ _ => .int _)) rf_args_nil (by rfl)) (by rfl)) (by rfl)) (by rfl)) (by decide) (by rfl) (by rfl)) (by rfl)) (rs_one (rs_drop (rf_cal (by rfl) (by exact c_check_faults) (takes_of rfl rfl rfl rfl) (hr.mono (by decide)) (by rfl) (rf_args_cons (rf_var (i := 2) (by rfl) (by first | exact .inl (by rfl) | exact .inr (.inl (by rfl)) | exact .inr (.inr (by rfl))) (by decide) (by decide)) rf_args_nil (by rfl)) (by decide) (by rfl) (by rfl)) (by rfl)))))
def p_most_within : MS := (sSeq (sDrop (mCall (fun _ => r_check_number) 0 4 (mDs false [(mC (.str "ticks")), (mVar 0), (mC (.int 1)), (mC (.int 999))]))) (sSeq (sDrop (mCall (fun _ => r_check_faults) 0 1 (mDs false [(mVar 1)]))) (sRet (mBin mulD (mBin fdivD (mBin subD (mBin addD (mVar 0) (mFld gd "ticks" (mVar 1))) (mC (.int 1))) (mFld gd "ticks" (mVar 1))) (mFld gd "many" (mVar 1))))))
def r_most_within : List D → List D → OutC := runFn 2 2 p_most_within
set_option maxHeartbeats 4000000 in
theorem ok_most_within (hT : Txt K mg cl fa) (ca : CA) (hca : ca.cl = cl) : Cal (mkG gd K ca fa) P w mg base "most_within" 13 2 r_most_within := by
  subst hca
  have hC := clsF (fa := fa) hT ca rfl
  have c_check_faults : Cal (mkG gd K ca fa) P w mg base "check_faults" 5 1 r_check_faults := ok_check_faults hT ca rfl
  have c_check_number : Cal (mkG gd K ca fa) P w mg base "check_number" 9 4 r_check_number := ok_check_number hT ca rfl
  have sc := sc_most_within
  obtain ⟨f, fd, F, hm, hb⟩ := hT.f_most_within
  refine ⟨f, fd, ps_most_within, fn_rf (g := (mkG gd K ca fa)) (N := N_most_within) (ps := ps_most_within) (k := 12) (m := p_most_within) F sc fun cdv A outer s H E hr => ?_, hm, F.kp, hb⟩
  exact (rs_cons (rs_drop (rf_cal (by rfl) (by exact c_check_number) (takes_of rfl rfl rfl rfl) (hr.mono (by decide)) (by rfl) (rf_args_cons (rf_c pe_str (fun _ _ => .str _)) (rf_args_cons (rf_var (i := 0) (by rfl) (by first | exact .inl (by rfl) | exact .inr (.inl (by rfl)) | exact .inr (.inr (by rfl))) (by decide) (by decide)) (rf_args_cons (rf_c pe_int (fun _ _ => .int _)) (rf_args_cons (rf_c pe_int (fun _ _ => .int _)) rf_args_nil (by rfl)) (by rfl)) (by rfl)) (by rfl)) (by decide) (by rfl) (by rfl)) (by rfl)) (rs_cons (rs_drop (rf_cal (by rfl) (by exact c_check_faults) (takes_of rfl rfl rfl rfl) (hr.mono (by decide)) (by rfl) (rf_args_cons (rf_var (i := 1) (by rfl) (by first | exact .inl (by rfl) | exact .inr (.inl (by rfl)) | exact .inr (.inr (by rfl))) (by decide) (by decide)) rf_args_nil (by rfl)) (by decide) (by rfl) (by rfl)) (by rfl)) (rs_one (rs_ret (rf_bin op_mulD ok_mul (rf_bin op_fdiv ok_fdiv (rf_bin op_sub ok_sub (rf_bin op_addD ok_add (rf_var (i := 0) (by rfl) (by first | exact .inl (by rfl) | exact .inr (.inl (by rfl)) | exact .inr (.inr (by rfl))) (by decide) (by decide)) (rf_fld (by rfl) hC (rf_var (i := 1) (by rfl) (by first | exact .inl (by rfl) | exact .inr (.inl (by rfl)) | exact .inr (.inr (by rfl))) (by decide) (by decide)) (by rfl))) (rf_c pe_int (fun _ _ => .int _))) (rf_fld (by rfl) hC (rf_var (i := 1) (by rfl) (by first | exact .inl (by rfl) | exact .inr (.inl (by rfl)) | exact .inr (.inr (by rfl))) (by decide) (by decide)) (by rfl))) (rf_fld (by rfl) hC (rf_var (i := 1) (by rfl) (by first | exact .inl (by rfl) | exact .inr (.inl (by rfl)) | exact .inr (.inr (by rfl))) (by decide) (by decide)) (by rfl)))))))
def p_judge_bound : MS := (sSeq (sDrop (mCall (fun _ => r_check_bound) 0 3 (mDs false [(mVar 0), (mVar 1), (mVar 2)]))) (sSeq (sSet 3 (mCall (fun _ => r_most_within) 0 2 (mDs false [(mVar 1), (mVar 2)]))) (sRet (mIf (mTB (mBin leD (mVar 3) (mVar 0))) (mVal (nNew (fun _ => i_Bears) 4 2 (mDs false [(mVar 3)]))) (mVal (nNew (fun _ => i_Passed) 5 2 (mDs false [(mCall (fun _ => r_soonest) 0 2 (mDs false [(mVar 2), (mBin addD (mVar 0) (mC (.int 1)))]))])))))))
def r_judge_bound : List D → List D → OutC := runFn 4 3 p_judge_bound
set_option maxHeartbeats 4000000 in
theorem ok_judge_bound (hT : Txt K mg cl fa) (ca : CA) (hca : ca.cl = cl) : Cal (mkG gd K ca fa) P w mg base "judge_bound" 17 3 r_judge_bound := by
  subst hca
  have hC := clsF (fa := fa) hT ca rfl
  have k_Bears : Mkr (mkG gd K ca fa) P w mg base "Bears" 4 1 2 i_Bears := mk_Bears hT ca rfl
  have k_Passed : Mkr (mkG gd K ca fa) P w mg base "Passed" 5 1 2 i_Passed := mk_Passed hT ca rfl
  have c_check_bound : Cal (mkG gd K ca fa) P w mg base "check_bound" 13 3 r_check_bound := ok_check_bound hT ca rfl
  have c_most_within : Cal (mkG gd K ca fa) P w mg base "most_within" 13 2 r_most_within := ok_most_within hT ca rfl
  have c_soonest : Cal (mkG gd K ca fa) P w mg base "soonest" 13 2 r_soonest := ok_soonest hT ca rfl
  have sc := sc_judge_bound
  obtain ⟨f, fd, F, hm, hb⟩ := hT.f_judge_bound
  refine ⟨f, fd, ps_judge_bound, fn_rf (g := (mkG gd K ca fa)) (N := N_judge_bound) (ps := ps_judge_bound) (k := 16) (m := p_judge_bound) F sc fun cdv A outer s H E hr => ?_, hm, F.kp, hb⟩
  exact (rs_cons (rs_drop (rf_cal (by rfl) (by exact c_check_bound) (takes_of rfl rfl rfl rfl) (hr.mono (by decide)) (by rfl) (rf_args_cons (rf_var (i := 0) (by rfl) (by first | exact .inl (by rfl) | exact .inr (.inl (by rfl)) | exact .inr (.inr (by rfl))) (by decide) (by decide)) (rf_args_cons (rf_var (i := 1) (by rfl) (by first | exact .inl (by rfl) | exact .inr (.inl (by rfl)) | exact .inr (.inr (by rfl))) (by decide) (by decide)) (rf_args_cons (rf_var (i := 2) (by rfl) (by first | exact .inl (by rfl) | exact .inr (.inl (by rfl)) | exact .inr (.inr (by rfl))) (by decide) (by decide)) rf_args_nil (by rfl)) (by rfl)) (by rfl)) (by decide) (by rfl) (by rfl)) (by rfl)) (rs_cons (rs_set (i := 3) sc.nd (by rfl) (by first | exact .inl (by rfl) | exact .inr (by rfl)) (rf_cal (by rfl) (by exact c_most_within) (takes_of rfl rfl rfl rfl) (hr.mono (by decide)) (by rfl) (rf_args_cons (rf_var (i := 1) (by rfl) (by first | exact .inl (by rfl) | exact .inr (.inl (by rfl)) | exact .inr (.inr (by rfl))) (by decide) (by decide)) (rf_args_cons (rf_var (i := 2) (by rfl) (by first | exact .inl (by rfl) | exact .inr (.inl (by rfl)) | exact .inr (.inr (by rfl))) (by decide) (by decide)) rf_args_nil (by rfl)) (by rfl)) (by decide) (by rfl) (by rfl)) (by rfl) (by first | exact .inl (by rfl) | exact .inr (by rfl))) (rs_one (rs_ret (rf_ifE (rf_cmpT op_le ok_le (rf_var (i := 3) (by rfl) (by first | exact .inl (by rfl) | exact .inr (.inl (by rfl)) | exact .inr (.inr (by rfl))) (by decide) (by decide)) (rf_var (i := 0) (by rfl) (by first | exact .inl (by rfl) | exact .inr (.inl (by rfl)) | exact .inr (.inr (by rfl))) (by decide) (by decide)) (by rfl)) (rf_val (rn_mk (by rfl) (by exact k_Bears) (takes_of rfl rfl rfl rfl) (hr.mono (by decide)) (by rfl) (rf_args_cons (rf_var (i := 3) (by rfl) (by first | exact .inl (by rfl) | exact .inr (.inl (by rfl)) | exact .inr (.inr (by rfl))) (by decide) (by decide)) rf_args_nil (by rfl)) (by decide) (by rfl) (by rfl))) (rf_val (rn_mk (by rfl) (by exact k_Passed) (takes_of rfl rfl rfl rfl) (hr.mono (by decide)) (by rfl) (rf_args_cons (rf_cal (by rfl) (by exact c_soonest) (takes_of rfl rfl rfl rfl) (hr.mono (by decide)) (by rfl) (rf_args_cons (rf_var (i := 2) (by rfl) (by first | exact .inl (by rfl) | exact .inr (.inl (by rfl)) | exact .inr (.inr (by rfl))) (by decide) (by decide)) (rf_args_cons (rf_bin op_addD ok_add (rf_var (i := 0) (by rfl) (by first | exact .inl (by rfl) | exact .inr (.inl (by rfl)) | exact .inr (.inr (by rfl))) (by decide) (by decide)) (rf_c pe_int (fun _ _ => .int _))) rf_args_nil (by rfl)) (by rfl)) (by decide) (by rfl) (by rfl)) rf_args_nil (by rfl)) (by decide) (by rfl) (by rfl))))))))
def ocEq : Oc
  | 0 => r_Faults_eq
  | 2 => r_Bears_eq
  | 5 => r_Passed_eq
  | _ => fun _ _ => .bad
theorem mth_eq (hT : Txt K mg cl fa) (ca : CA) (hca : ca.cl = cl) : Mth (mkG gd K ca fa) P w mg base ocEq 1 "__eq__" := by
  subst hca
  intro c i h
  replace h : mt_eq c = some i := h
  unfold mt_eq at h
  split at h <;> first | (cases h; done) | skip
  · cases h; obtain ⟨fd, F, h1, h2⟩ := okm_Faults_eq (P := P) (w := w) (base := base) hT ca rfl
    exact ⟨_, fd, _, by decide, F, h1, h2⟩
  · cases h; obtain ⟨fd, F, h1, h2⟩ := okm_Bears_eq (P := P) (w := w) (base := base) hT ca rfl
    exact ⟨_, fd, _, by decide, F, h1, h2⟩
  · cases h; obtain ⟨fd, F, h1, h2⟩ := okm_Passed_eq (P := P) (w := w) (base := base) hT ca rfl
    exact ⟨_, fd, _, by decide, F, h1, h2⟩
def p_Bears_shows : MS := (sRet (mCmpI gd ocEq false (mCall (fun _ => r_judge_bound) 0 3 (mDs false [(mVar 1), (mVar 2), (mVar 3)])) (mVar 0)))
def r_Bears_shows : List D → List D → OutC := runFn 4 4 p_Bears_shows
set_option maxHeartbeats 4000000 in
theorem okm_Bears_shows (hT : Txt K mg cl fa) (ca : CA) (hca : ca.cl = cl) : ∃ fd, FnOk P w K mg base (L2.CX P w) 21 (fa 3) fd ps_Bears_shows (spF (mkG gd K ca fa) 4 r_Bears_shows) ∧ PySem.W.keepIn K (.ref (fa 3)) = true ∧ Binds K fd ps_Bears_shows [] := by
  subst hca
  have hC := clsF (fa := fa) hT ca rfl
  have hEq : Mth (mkG gd K ca fa) P w mg base ocEq 1 "__eq__" := mth_eq hT ca rfl
  have c_judge_bound : Cal (mkG gd K ca fa) P w mg base "judge_bound" 17 3 r_judge_bound := ok_judge_bound hT ca rfl
  have sc := sc_Bears_shows
  obtain ⟨fd, F, hb⟩ := hT.fm_3
  refine ⟨fd, fn_rf (g := (mkG gd K ca fa)) (N := N_Bears_shows) (ps := ps_Bears_shows) (k := 20) (m := p_Bears_shows) F sc fun cdv A outer s H E hr => ?_, F.kp, hb⟩
  exact (rs_one (rs_ret (rf_eqI (by rfl) hC hEq (hr.mono (by decide)) (op_eqD hr.units) ok_eqv (rf_cal (by rfl) (by exact c_judge_bound) (takes_of rfl rfl rfl rfl) (hr.mono (by decide)) (by rfl) (rf_args_cons (rf_var (i := 1) (by rfl) (by first | exact .inl (by rfl) | exact .inr (.inl (by rfl)) | exact .inr (.inr (by rfl))) (by decide) (by decide)) (rf_args_cons (rf_var (i := 2) (by rfl) (by first | exact .inl (by rfl) | exact .inr (.inl (by rfl)) | exact .inr (.inr (by rfl))) (by decide) (by decide)) (rf_args_cons (rf_var (i := 3) (by rfl) (by first | exact .inl (by rfl) | exact .inr (.inl (by rfl)) | exact .inr (.inr (by rfl))) (by decide) (by decide)) rf_args_nil (by rfl)) (by rfl)) (by rfl)) (by decide) (by rfl) (by rfl)) (rf_var (i := 0) (by rfl) (by first | exact .inl (by rfl) | exact .inr (.inl (by rfl)) | exact .inr (.inr (by rfl))) (by decide) (by decide)) (by rfl))))
def p_Passed_bool : MS := (sRet (mC (.bl false)))
def r_Passed_bool : List D → List D → OutC := runFn 1 1 p_Passed_bool
set_option maxHeartbeats 4000000 in
theorem okm_Passed_bool (hT : Txt K mg cl fa) (ca : CA) (hca : ca.cl = cl) : ∃ fd, FnOk P w K mg base (L2.CX P w) 1 (fa 4) fd ps_Passed_bool (spF (mkG gd K ca fa) 1 r_Passed_bool) ∧ PySem.W.keepIn K (.ref (fa 4)) = true ∧ Binds K fd ps_Passed_bool [] := by
  subst hca
  have hC := clsF (fa := fa) hT ca rfl
  have sc := sc_Passed_bool
  obtain ⟨fd, F, hb⟩ := hT.fm_4
  refine ⟨fd, fn_rf (g := (mkG gd K ca fa)) (N := N_Passed_bool) (ps := ps_Passed_bool) (k := 0) (m := p_Passed_bool) F sc fun cdv A outer s H E hr => ?_, F.kp, hb⟩
  exact (rs_one (rs_ret (rf_c pe_bl (fun _ _ => .bl _))))
def p_Passed_shows : MS := (sSeq (sDrop (mCall (fun _ => r_check_bound) 0 3 (mDs false [(mVar 1), (mVar 2), (mVar 3)]))) (sSeq (sSet 4 (mC (.int 0))) (sSeq (sFor (iH (mFld gd "falls" (mVar 0))) (tgName 5) (sSeq (sIf (mNotT (mTV (mCall (fun _ => r_is_number) 0 3 (mDs false [(mVar 5), (mVar 4), (mC (.int 99999))])))) (sRet (mC (.bl false))) sPass) (sSet 4 (mVar 5)))) (sSeq (sIf (mNotT (mTV (mCall (fun _ => r_are_within) 0 2 (mDs false [(mVar 3), (mFld gd "falls" (mVar 0))])))) (sRet (mC (.bl false))) sPass) (sRet (mAndV [(mBin eqvD (mCall (fun _ => r_first_beyond) 0 3 (mDs false [(mVar 1), (mVar 2), (mFld gd "falls" (mVar 0))])) (mBin subD (m1 lenO (mFld gd "falls" (mVar 0))) (mC (.int 1)))), (mBin nevD (mFld gd "falls" (mVar 0)) (mTup (mDs false [])))]))))))
def r_Passed_shows : List D → List D → OutC := runFn 6 4 p_Passed_shows
set_option maxHeartbeats 4000000 in
theorem okm_Passed_shows (hT : Txt K mg cl fa) (ca : CA) (hca : ca.cl = cl) : ∃ fd, FnOk P w K mg base (L2.CX P w) 17 (fa 6) fd ps_Passed_shows (spF (mkG gd K ca fa) 4 r_Passed_shows) ∧ PySem.W.keepIn K (.ref (fa 6)) = true ∧ Binds K fd ps_Passed_shows [] := by
  subst hca
  have hC := clsF (fa := fa) hT ca rfl
  have c_are_within : Cal (mkG gd K ca fa) P w mg base "are_within" 13 2 r_are_within := ok_are_within hT ca rfl
  have c_check_bound : Cal (mkG gd K ca fa) P w mg base "check_bound" 13 3 r_check_bound := ok_check_bound hT ca rfl
  have c_first_beyond : Cal (mkG gd K ca fa) P w mg base "first_beyond" 13 3 r_first_beyond := ok_first_beyond hT ca rfl
  have c_is_number : Cal (mkG gd K ca fa) P w mg base "is_number" 5 3 r_is_number := ok_is_number hT ca rfl
  have sc := sc_Passed_shows
  obtain ⟨fd, F, hb⟩ := hT.fm_6
  refine ⟨fd, fn_rf (g := (mkG gd K ca fa)) (N := N_Passed_shows) (ps := ps_Passed_shows) (k := 16) (m := p_Passed_shows) F sc fun cdv A outer s H E hr => ?_, F.kp, hb⟩
  exact (rs_cons (rs_drop (rf_cal (by rfl) (by exact c_check_bound) (takes_of rfl rfl rfl rfl) (hr.mono (by decide)) (by rfl) (rf_args_cons (rf_var (i := 1) (by rfl) (by first | exact .inl (by rfl) | exact .inr (.inl (by rfl)) | exact .inr (.inr (by rfl))) (by decide) (by decide)) (rf_args_cons (rf_var (i := 2) (by rfl) (by first | exact .inl (by rfl) | exact .inr (.inl (by rfl)) | exact .inr (.inr (by rfl))) (by decide) (by decide)) (rf_args_cons (rf_var (i := 3) (by rfl) (by first | exact .inl (by rfl) | exact .inr (.inl (by rfl)) | exact .inr (.inr (by rfl))) (by decide) (by decide)) rf_args_nil (by rfl)) (by rfl)) (by rfl)) (by decide) (by rfl) (by rfl)) (by rfl)) (rs_cons (rs_set (i := 4) sc.nd (by rfl) (by first | exact .inl (by rfl) | exact .inr (by rfl)) (rf_c pe_int (fun _ _ => .int _)) (by rfl) (by first | exact .inl (by rfl) | exact .inr (by rfl))) (rs_cons (rs_for (passes_of rfl) (by rfl) (ri_seq (by rfl) (rf_fld (by rfl) hC (rf_var (i := 0) (by rfl) (by first | exact .inl (by rfl) | exact .inr (.inl (by rfl)) | exact .inr (.inr (by rfl))) (by decide) (by decide)) (by rfl))) (rg_name (i := 5) sc.nd (by rfl) (by first | exact .inl (by rfl) | exact .inr (by rfl)) (by first | exact .inl (by rfl) | exact .inr (by rfl))) (rs_cons (rs_if (rf_notT (rf_truth (rf_cal (by rfl) (by exact c_is_number) (takes_of rfl rfl rfl rfl) (hr.mono (by decide)) (by rfl) (rf_args_cons (rf_var (i := 5) (by rfl) (by first | exact .inl (by rfl) | exact .inr (.inl (by rfl)) | exact .inr (.inr (by rfl))) (by decide) (by decide)) (rf_args_cons (rf_var (i := 4) (by rfl) (by first | exact .inl (by rfl) | exact .inr (.inl (by rfl)) | exact .inr (.inr (by rfl))) (by decide) (by decide)) (rf_args_cons (rf_c pe_int (fun _ _ => .int _)) rf_args_nil (by rfl)) (by rfl)) (by rfl)) (by decide) (by rfl) (by rfl)) (fun _ => rfl) (by rfl))) (rs_one (rs_ret (rf_c pe_bl (fun _ _ => .bl _)))) rs_nil) (rs_one (rs_set (i := 4) sc.nd (by rfl) (by first | exact .inl (by rfl) | exact .inr (by rfl)) (rf_var (i := 5) (by rfl) (by first | exact .inl (by rfl) | exact .inr (.inl (by rfl)) | exact .inr (.inr (by rfl))) (by decide) (by decide)) (by rfl) (by first | exact .inl (by rfl) | exact .inr (by rfl))))) (fun _ => rfl)) (rs_cons (rs_if (rf_notT (rf_truth (rf_cal (by rfl) (by exact c_are_within) (takes_of rfl rfl rfl rfl) (hr.mono (by decide)) (by rfl) (rf_args_cons (rf_var (i := 3) (by rfl) (by first | exact .inl (by rfl) | exact .inr (.inl (by rfl)) | exact .inr (.inr (by rfl))) (by decide) (by decide)) (rf_args_cons (rf_fld (by rfl) hC (rf_var (i := 0) (by rfl) (by first | exact .inl (by rfl) | exact .inr (.inl (by rfl)) | exact .inr (.inr (by rfl))) (by decide) (by decide)) (by rfl)) rf_args_nil (by rfl)) (by rfl)) (by decide) (by rfl) (by rfl)) (fun _ => rfl) (by rfl))) (rs_one (rs_ret (rf_c pe_bl (fun _ _ => .bl _)))) rs_nil) (rs_one (rs_ret (rf_andV (rf_cmp (op_eqD hr.units) ok_eqv (rf_cal (by rfl) (by exact c_first_beyond) (takes_of rfl rfl rfl rfl) (hr.mono (by decide)) (by rfl) (rf_args_cons (rf_var (i := 1) (by rfl) (by first | exact .inl (by rfl) | exact .inr (.inl (by rfl)) | exact .inr (.inr (by rfl))) (by decide) (by decide)) (rf_args_cons (rf_var (i := 2) (by rfl) (by first | exact .inl (by rfl) | exact .inr (.inl (by rfl)) | exact .inr (.inr (by rfl))) (by decide) (by decide)) (rf_args_cons (rf_fld (by rfl) hC (rf_var (i := 0) (by rfl) (by first | exact .inl (by rfl) | exact .inr (.inl (by rfl)) | exact .inr (.inr (by rfl))) (by decide) (by decide)) (by rfl)) rf_args_nil (by rfl)) (by rfl)) (by rfl)) (by decide) (by rfl) (by rfl)) (rf_bin op_sub ok_sub (rf_b1 cr_lenD ok_len (by rfl) (by exact hT.b_len) (by rfl) (rf_fld (by rfl) hC (rf_var (i := 0) (by rfl) (by first | exact .inl (by rfl) | exact .inr (.inl (by rfl)) | exact .inr (.inr (by rfl))) (by decide) (by decide)) (by rfl)) (by decide) (by decide) (by rfl) (by rfl)) (rf_c pe_int (fun _ _ => .int _))) (by rfl)) (rf_andV1 (rf_cmp (op_neD hr.units) ok_nev (rf_fld (by rfl) hC (rf_var (i := 0) (by rfl) (by first | exact .inl (by rfl) | exact .inr (.inl (by rfl)) | exact .inr (.inr (by rfl))) (by decide) (by decide)) (by rfl)) (rf_tup rf_args_nil) (by rfl))))))))))
def p_least_most : MS := (sRet (mCall (fun _ => r_most_within) 0 2 (mDs false [(mVar 0), (mVar 1)])))
def r_least_most : List D → List D → OutC := runFn 2 2 p_least_most
set_option maxHeartbeats 4000000 in
theorem ok_least_most (hT : Txt K mg cl fa) (ca : CA) (hca : ca.cl = cl) : Cal (mkG gd K ca fa) P w mg base "least_most" 17 2 r_least_most := by
  subst hca
  have hC := clsF (fa := fa) hT ca rfl
  have c_most_within : Cal (mkG gd K ca fa) P w mg base "most_within" 13 2 r_most_within := ok_most_within hT ca rfl
  have sc := sc_least_most
  obtain ⟨f, fd, F, hm, hb⟩ := hT.f_least_most
  refine ⟨f, fd, ps_least_most, fn_rf (g := (mkG gd K ca fa)) (N := N_least_most) (ps := ps_least_most) (k := 16) (m := p_least_most) F sc fun cdv A outer s H E hr => ?_, hm, F.kp, hb⟩
  exact (rs_one (rs_ret (rf_cal (by rfl) (by exact c_most_within) (takes_of rfl rfl rfl rfl) (hr.mono (by decide)) (by rfl) (rf_args_cons (rf_var (i := 0) (by rfl) (by first | exact .inl (by rfl) | exact .inr (.inl (by rfl)) | exact .inr (.inr (by rfl))) (by decide) (by decide)) (rf_args_cons (rf_var (i := 1) (by rfl) (by first | exact .inl (by rfl) | exact .inr (.inl (by rfl)) | exact .inr (.inr (by rfl))) (by decide) (by decide)) rf_args_nil (by rfl)) (by rfl)) (by decide) (by rfl) (by rfl))))
def p_greatest_ticks : MS := (sSeq (sDrop (mCall (fun _ => r_check_number) 0 4 (mDs false [(mC (.str "most")), (mVar 0), (mC (.int 0)), (mC (.int 99))]))) (sSeq (sDrop (mCall (fun _ => r_check_faults) 0 1 (mDs false [(mVar 1)]))) (sSeq (sSet 2 (mVal (nLc (iR2 (mDs false [(mC (.int 1)), (mC (.int 100))])) (tgName 3) (mTB (mBin leD (mCall (fun _ => r_most_within) 0 2 (mDs false [(mVar 3), (mVar 1)])) (mVar 0))) (mVar 3) [3]))) (sRet (mIf (mTB (mBin nevD (mVar 2) (mLst (mDs false [])))) (mBin itemD (mVar 2) (m1 negO (mC (.int 1)))) (mC (.int 0)))))))
def r_greatest_ticks : List D → List D → OutC := runFn 4 2 p_greatest_ticks
set_option maxHeartbeats 4000000 in
theorem ok_greatest_ticks (hT : Txt K mg cl fa) (ca : CA) (hca : ca.cl = cl) : Cal (mkG gd K ca fa) P w mg base "greatest_ticks" 17 2 r_greatest_ticks := by
  subst hca
  have hC := clsF (fa := fa) hT ca rfl
  have c_check_faults : Cal (mkG gd K ca fa) P w mg base "check_faults" 5 1 r_check_faults := ok_check_faults hT ca rfl
  have c_check_number : Cal (mkG gd K ca fa) P w mg base "check_number" 9 4 r_check_number := ok_check_number hT ca rfl
  have c_most_within : Cal (mkG gd K ca fa) P w mg base "most_within" 13 2 r_most_within := ok_most_within hT ca rfl
  have sc := sc_greatest_ticks
  obtain ⟨f, fd, F, hm, hb⟩ := hT.f_greatest_ticks
  refine ⟨f, fd, ps_greatest_ticks, fn_rf (g := (mkG gd K ca fa)) (N := N_greatest_ticks) (ps := ps_greatest_ticks) (k := 16) (m := p_greatest_ticks) F sc fun cdv A outer s H E hr => ?_, hm, F.kp, hb⟩
  exact (rs_cons (rs_drop (rf_cal (by rfl) (by exact c_check_number) (takes_of rfl rfl rfl rfl) (hr.mono (by decide)) (by rfl) (rf_args_cons (rf_c pe_str (fun _ _ => .str _)) (rf_args_cons (rf_var (i := 0) (by rfl) (by first | exact .inl (by rfl) | exact .inr (.inl (by rfl)) | exact .inr (.inr (by rfl))) (by decide) (by decide)) (rf_args_cons (rf_c pe_int (fun _ _ => .int _)) (rf_args_cons (rf_c pe_int (fun _ _ => .int _)) rf_args_nil (by rfl)) (by rfl)) (by rfl)) (by rfl)) (by decide) (by rfl) (by rfl)) (by rfl)) (rs_cons (rs_drop (rf_cal (by rfl) (by exact c_check_faults) (takes_of rfl rfl rfl rfl) (hr.mono (by decide)) (by rfl) (rf_args_cons (rf_var (i := 1) (by rfl) (by first | exact .inl (by rfl) | exact .inr (.inl (by rfl)) | exact .inr (.inr (by rfl))) (by decide) (by decide)) rf_args_nil (by rfl)) (by decide) (by rfl) (by rfl)) (by rfl)) (rs_cons (rs_setLc (i := 2) (own := [("ticks", 3)]) (by rfl) sc.nd (by rfl) (by rfl) (by rfl) (ri_r2 (by rfl) (by exact hT.b_range) (rf_args_cons (rf_c pe_int (fun _ _ => .int _)) (rf_args_cons (rf_c pe_int (fun _ _ => .int _)) rf_args_nil (by rfl)) (by rfl)) (by rfl) (by rfl)) (blkOk_by (by rfl)) (by decide) (fun _ _ _ _ _ => (rg_name (i := 3) sc.nd (by rfl) (by first | exact .inl (by rfl) | exact .inr (by rfl)) (by first | exact .inl (by rfl) | exact .inr (by rfl)))) (fun _ _ _ _ _ => (rts_one (rf_cmpT op_le ok_le (rf_cal (by rfl) (by exact c_most_within) takes_none5 (hr.mono (by decide)) (by rfl) (rf_args_cons (rf_var (i := 3) (by rfl) (by first | exact .inl (by rfl) | exact .inr (.inl (by rfl)) | exact .inr (.inr (by rfl))) (by decide) (by decide)) (rf_args_cons (rf_var (i := 1) (by rfl) (by first | exact .inl (by rfl) | exact .inr (.inl (by rfl)) | exact .inr (.inr (by rfl))) (by decide) (by decide)) rf_args_nil (by rfl)) (by rfl)) (by decide) (by rfl) (by rfl)) (rf_var (i := 0) (by rfl) (by first | exact .inl (by rfl) | exact .inr (.inl (by rfl)) | exact .inr (.inr (by rfl))) (by decide) (by decide)) (by rfl)))) (fun _ _ _ _ _ => (rf_var (i := 3) (by rfl) (by first | exact .inl (by rfl) | exact .inr (.inl (by rfl)) | exact .inr (.inr (by rfl))) (by decide) (by decide))) (fun _ => rfl)) (rs_one (rs_ret (rf_ifE (rf_cmpT (op_neD hr.units) ok_nev (rf_var (i := 2) (by rfl) (by first | exact .inl (by rfl) | exact .inr (.inl (by rfl)) | exact .inr (.inr (by rfl))) (by decide) (by decide)) (rf_lst rf_args_nil) (by rfl)) (rf_sub (by rfl) (hu_of hr) (rf_var (i := 2) (by rfl) (by first | exact .inl (by rfl) | exact .inr (.inl (by rfl)) | exact .inr (.inr (by rfl))) (by decide) (by decide)) (rf_neg (rf_c pe_int (fun _ _ => .int _))) (fun _ _ => rfl)) (rf_c pe_int (fun _ _ => .int _))))))))
def p__law_number : MS := (sSeq (sUnp (tgTup 2 (tgsCons (tgName 2) (tgsCons (tgName 3) tgsNil))) (mIf (mTB (mBin nevD (mVar 0) (mLst (mDs false [])))) (mTup (mDs false [(mBin itemD (mVar 0) (mBin modD (mVar 1) (m1 lenO (mVar 0)))), (mBin fdivD (mVar 1) (m1 lenO (mVar 0)))])) (mTup (mDs false [(mC (.int 12345)), (mC (.int 0))])))) (sSeq (sSet 4 (mIf (mTB (mBin ltD (mVar 3) (mC (.int 60)))) (mBin subD (mVar 2) (mBin powD (mC (.int 10)) (mC (.int 18)))) (mC (.int 0)))) (sSeq (sFor (iR1 (mDs false [(mBin modD (m1 intO (mVar 3)) (mC (.int 60)))])) (tgName 5) (sSet 4 (mBin fdivD (mVar 4) (mC (.int 1009))))) (sSeq (sIf (mTB (mBin gtD (mVar 4) (mC (.int 0)))) (sRet (mBin modD (m1 intO (mVar 4)) (mC (.int 1009)))) sPass) (sSeq (sSet 6 (mBin modD (mBin addD (mBin mulD (m1 intO (mBin addD (mVar 2) (mBin mulD (mC (.int 977)) (mVar 1)))) (mC (.int 48271))) (mBin mulD (mC (.int 31)) (m1 lenO (mVar 0)))) (mC (.int 2147483647)))) (sSeq (sSet 6 (mBin modD (mBin addD (mBin mulD (mVar 6) (mVar 6)) (mBin mulD (mC (.int 40503)) (mVar 1))) (mC (.int 2147483629)))) (sRet (m1 intO (mBin modD (mBin addD (mBin mulD (mVar 6) (mC (.int 69621))) (mBin fdivD (mVar 6) (mC (.int 977)))) (mC (.int 2147483587)))))))))))
def r__law_number : List D → List D → OutC := runFn 7 2 p__law_number
set_option maxHeartbeats 4000000 in
theorem ok__law_number (hT : Txt K mg cl fa) (ca : CA) (hca : ca.cl = cl) : Cal (mkG gd K ca fa) P w mg base "_law_number" 1 2 r__law_number := by
  subst hca
  have hC := clsF (fa := fa) hT ca rfl
  have sc := sc__law_number
  obtain ⟨f, fd, F, hm, hb⟩ := hT.f__law_number
  refine ⟨f, fd, ps__law_number, fn_rf (g := (mkG gd K ca fa)) (N := N__law_number) (ps := ps__law_number) (k := 0) (m := p__law_number) F sc fun cdv A outer s H E hr => ?_, hm, F.kp, hb⟩
  exact (rs_cons (rs_unp (rf_ifE (rf_cmpT (op_neD hr.units) ok_nev (rf_var (i := 0) (by rfl) (by first | exact .inl (by rfl) | exact .inr (.inl (by rfl)) | exact .inr (.inr (by rfl))) (by decide) (by decide)) (rf_lst rf_args_nil) (by rfl)) (rf_tup (rf_args_cons (rf_sub (by rfl) (hu_of hr) (rf_var (i := 0) (by rfl) (by first | exact .inl (by rfl) | exact .inr (.inl (by rfl)) | exact .inr (.inr (by rfl))) (by decide) (by decide)) (rf_bin op_mod ok_mod (rf_var (i := 1) (by rfl) (by first | exact .inl (by rfl) | exact .inr (.inl (by rfl)) | exact .inr (.inr (by rfl))) (by decide) (by decide)) (rf_b1 cr_lenD ok_len (by rfl) (by exact hT.b_len) (by rfl) (rf_var (i := 0) (by rfl) (by first | exact .inl (by rfl) | exact .inr (.inl (by rfl)) | exact .inr (.inr (by rfl))) (by decide) (by decide)) (by decide) (by decide) (by rfl) (by rfl))) (fun _ _ => rfl)) (rf_args_cons (rf_bin op_fdiv ok_fdiv (rf_var (i := 1) (by rfl) (by first | exact .inl (by rfl) | exact .inr (.inl (by rfl)) | exact .inr (.inr (by rfl))) (by decide) (by decide)) (rf_b1 cr_lenD ok_len (by rfl) (by exact hT.b_len) (by rfl) (rf_var (i := 0) (by rfl) (by first | exact .inl (by rfl) | exact .inr (.inl (by rfl)) | exact .inr (.inr (by rfl))) (by decide) (by decide)) (by decide) (by decide) (by rfl) (by rfl))) rf_args_nil (by rfl)) (by rfl))) (rf_tup (rf_args_cons (rf_c pe_int (fun _ _ => .int _)) (rf_args_cons (rf_c pe_int (fun _ _ => .int _)) rf_args_nil (by rfl)) (by rfl)))) (rg_tup (by rfl) (by rfl) (rgs_cons (fun h1 h2 => pgs_cons h1 h2) (rg_name (i := 2) sc.nd (by rfl) (by first | exact .inl (by rfl) | exact .inr (by rfl)) (by first | exact .inl (by rfl) | exact .inr (by rfl))) (rgs_cons (fun h1 h2 => pgs_cons h1 h2) (rg_name (i := 3) sc.nd (by rfl) (by first | exact .inl (by rfl) | exact .inr (by rfl)) (by first | exact .inl (by rfl) | exact .inr (by rfl))) rgs_nil)) (by rfl) (by rfl)) (by rfl) (by rfl) (by rfl)) (rs_cons (rs_set (i := 4) sc.nd (by rfl) (by first | exact .inl (by rfl) | exact .inr (by rfl)) (rf_ifE (rf_cmpT op_ltD ok_lt (rf_var (i := 3) (by rfl) (by first | exact .inl (by rfl) | exact .inr (.inl (by rfl)) | exact .inr (.inr (by rfl))) (by decide) (by decide)) (rf_c pe_int (fun _ _ => .int _)) (by rfl)) (rf_bin op_sub ok_sub (rf_var (i := 2) (by rfl) (by first | exact .inl (by rfl) | exact .inr (.inl (by rfl)) | exact .inr (.inr (by rfl))) (by decide) (by decide)) (rf_bin op_pow ok_pow (rf_c pe_int (fun _ _ => .int _)) (rf_c pe_int (fun _ _ => .int _)))) (rf_c pe_int (fun _ _ => .int _))) (by rfl) (by first | exact .inl (by rfl) | exact .inr (by rfl))) (rs_cons (rs_for (passes_of rfl) (by rfl) (ri_r1 (by rfl) (by exact hT.b_range) (rf_args_cons (rf_bin op_mod ok_mod (rf_t1 call_int1 ok_int (by rfl) (by exact hT.b_int) (by rfl) (rf_var (i := 3) (by rfl) (by first | exact .inl (by rfl) | exact .inr (.inl (by rfl)) | exact .inr (.inr (by rfl))) (by decide) (by decide)) (by decide) (by decide) (by rfl) (by rfl)) (rf_c pe_int (fun _ _ => .int _))) rf_args_nil (by rfl)) (by rfl)) (rg_name (i := 5) sc.nd (by rfl) (by first | exact .inl (by rfl) | exact .inr (by rfl)) (by first | exact .inl (by rfl) | exact .inr (by rfl))) (rs_one (rs_set (i := 4) sc.nd (by rfl) (by first | exact .inl (by rfl) | exact .inr (by rfl)) (rf_bin op_fdiv ok_fdiv (rf_var (i := 4) (by rfl) (by first | exact .inl (by rfl) | exact .inr (.inl (by rfl)) | exact .inr (.inr (by rfl))) (by decide) (by decide)) (rf_c pe_int (fun _ _ => .int _))) (by rfl) (by first | exact .inl (by rfl) | exact .inr (by rfl)))) (fun _ => rfl)) (rs_cons (rs_if (rf_cmpT op_gtD ok_gt (rf_var (i := 4) (by rfl) (by first | exact .inl (by rfl) | exact .inr (.inl (by rfl)) | exact .inr (.inr (by rfl))) (by decide) (by decide)) (rf_c pe_int (fun _ _ => .int _)) (by rfl)) (rs_one (rs_ret (rf_bin op_mod ok_mod (rf_t1 call_int1 ok_int (by rfl) (by exact hT.b_int) (by rfl) (rf_var (i := 4) (by rfl) (by first | exact .inl (by rfl) | exact .inr (.inl (by rfl)) | exact .inr (.inr (by rfl))) (by decide) (by decide)) (by decide) (by decide) (by rfl) (by rfl)) (rf_c pe_int (fun _ _ => .int _))))) rs_nil) (rs_cons (rs_set (i := 6) sc.nd (by rfl) (by first | exact .inl (by rfl) | exact .inr (by rfl)) (rf_bin op_mod ok_mod (rf_bin op_addD ok_add (rf_bin op_mulD ok_mul (rf_t1 call_int1 ok_int (by rfl) (by exact hT.b_int) (by rfl) (rf_bin op_addD ok_add (rf_var (i := 2) (by rfl) (by first | exact .inl (by rfl) | exact .inr (.inl (by rfl)) | exact .inr (.inr (by rfl))) (by decide) (by decide)) (rf_bin op_mulD ok_mul (rf_c pe_int (fun _ _ => .int _)) (rf_var (i := 1) (by rfl) (by first | exact .inl (by rfl) | exact .inr (.inl (by rfl)) | exact .inr (.inr (by rfl))) (by decide) (by decide)))) (by decide) (by decide) (by rfl) (by rfl)) (rf_c pe_int (fun _ _ => .int _))) (rf_bin op_mulD ok_mul (rf_c pe_int (fun _ _ => .int _)) (rf_b1 cr_lenD ok_len (by rfl) (by exact hT.b_len) (by rfl) (rf_var (i := 0) (by rfl) (by first | exact .inl (by rfl) | exact .inr (.inl (by rfl)) | exact .inr (.inr (by rfl))) (by decide) (by decide)) (by decide) (by decide) (by rfl) (by rfl)))) (rf_c pe_int (fun _ _ => .int _))) (by rfl) (by first | exact .inl (by rfl) | exact .inr (by rfl))) (rs_cons (rs_set (i := 6) sc.nd (by rfl) (by first | exact .inl (by rfl) | exact .inr (by rfl)) (rf_bin op_mod ok_mod (rf_bin op_addD ok_add (rf_bin op_mulD ok_mul (rf_var (i := 6) (by rfl) (by first | exact .inl (by rfl) | exact .inr (.inl (by rfl)) | exact .inr (.inr (by rfl))) (by decide) (by decide)) (rf_var (i := 6) (by rfl) (by first | exact .inl (by rfl) | exact .inr (.inl (by rfl)) | exact .inr (.inr (by rfl))) (by decide) (by decide))) (rf_bin op_mulD ok_mul (rf_c pe_int (fun _ _ => .int _)) (rf_var (i := 1) (by rfl) (by first | exact .inl (by rfl) | exact .inr (.inl (by rfl)) | exact .inr (.inr (by rfl))) (by decide) (by decide)))) (rf_c pe_int (fun _ _ => .int _))) (by rfl) (by first | exact .inl (by rfl) | exact .inr (by rfl))) (rs_one (rs_ret (rf_t1 call_int1 ok_int (by rfl) (by exact hT.b_int) (by rfl) (rf_bin op_mod ok_mod (rf_bin op_addD ok_add (rf_bin op_mulD ok_mul (rf_var (i := 6) (by rfl) (by first | exact .inl (by rfl) | exact .inr (.inl (by rfl)) | exact .inr (.inr (by rfl))) (by decide) (by decide)) (rf_c pe_int (fun _ _ => .int _))) (rf_bin op_fdiv ok_fdiv (rf_var (i := 6) (by rfl) (by first | exact .inl (by rfl) | exact .inr (.inl (by rfl)) | exact .inr (.inr (by rfl))) (by decide) (by decide)) (rf_c pe_int (fun _ _ => .int _)))) (rf_c pe_int (fun _ _ => .int _))) (by decide) (by decide) (by rfl) (by rfl))))))))))
def p__law_take : MS := (sSeq (sAugIt addIS (mVar 0) (mC (.int 1)) (mC (.int 1))) (sRet (mBin modD (m1 intO (mCall (fun _ => r__law_number) 0 2 (mDs false [(mBin itemD (mVar 0) (mC (.int 0))), (m1 intO (mBin itemD (mVar 0) (mC (.int 1))))]))) (mVar 1))))
def r__law_take : List D → List D → OutC := runFn 2 2 p__law_take
set_option maxHeartbeats 4000000 in
theorem ok__law_take (hT : Txt K mg cl fa) (ca : CA) (hca : ca.cl = cl) : Cal (mkG gd K ca fa) P w mg base "_law_take" 5 2 r__law_take := by
  subst hca
  have hC := clsF (fa := fa) hT ca rfl
  have c__law_number : Cal (mkG gd K ca fa) P w mg base "_law_number" 1 2 r__law_number := ok__law_number hT ca rfl
  have sc := sc__law_take
  obtain ⟨f, fd, F, hm, hb⟩ := hT.f__law_take
  refine ⟨f, fd, ps__law_take, fn_rf (g := (mkG gd K ca fa)) (N := N__law_take) (ps := ps__law_take) (k := 4) (m := p__law_take) F sc fun cdv A outer s H E hr => ?_, hm, F.kp, hb⟩
  exact (rs_cons (rs_augI (by rfl) (hu_of hr) (rf_var (i := 0) (by rfl) (by first | exact .inl (by rfl) | exact .inr (.inl (by rfl)) | exact .inr (.inr (by rfl))) (by decide) (by decide)) (rf_c pe_int (fun _ _ => .int _)) (rf_c pe_int (fun _ _ => .int _)) pip_addIS ok_addIS (fun _ _ _ => rfl)) (rs_one (rs_ret (rf_bin op_mod ok_mod (rf_t1 call_int1 ok_int (by rfl) (by exact hT.b_int) (by rfl) (rf_cal (by rfl) (by exact c__law_number) (takes_of rfl rfl rfl rfl) (hr.mono (by decide)) (by rfl) (rf_args_cons (rf_sub (by rfl) (hu_of hr) (rf_var (i := 0) (by rfl) (by first | exact .inl (by rfl) | exact .inr (.inl (by rfl)) | exact .inr (.inr (by rfl))) (by decide) (by decide)) (rf_c pe_int (fun _ _ => .int _)) (fun _ _ => rfl)) (rf_args_cons (rf_t1 call_int1 ok_int (by rfl) (by exact hT.b_int) (by rfl) (rf_sub (by rfl) (hu_of hr) (rf_var (i := 0) (by rfl) (by first | exact .inl (by rfl) | exact .inr (.inl (by rfl)) | exact .inr (.inr (by rfl))) (by decide) (by decide)) (rf_c pe_int (fun _ _ => .int _)) (fun _ _ => rfl)) (by decide) (by decide) (by rfl) (by rfl)) rf_args_nil (by rfl)) (by rfl)) (by decide) (by rfl) (by rfl)) (by decide) (by decide) (by rfl) (by rfl)) (rf_var (i := 1) (by rfl) (by first | exact .inl (by rfl) | exact .inr (.inl (by rfl)) | exact .inr (.inr (by rfl))) (by decide) (by decide))))))
def p__law_most : MS := (sSeq (sOwn 2 (nLst (mDs false [(mC (.int 0))]))) (sSeq (sFor (iH (mFrz (mVar 0))) (tgName 3) (sDrop (mMut isLst appD (mVar 2) (mDs false [(m1 lenO (mVal (nLc (iH (mVar 0)) (tgName 4) (mTB (mChain leD ltD (mVar 3) (mVar 4) (mBin addD (mVar 3) (mVar 1)))) (mVar 4) [4])))])))) (sRet (m1 maxO (mVar 2)))))
def r__law_most : List D → List D → OutC := runFn 5 2 p__law_most
set_option maxHeartbeats 4000000 in
theorem ok__law_most (hT : Txt K mg cl fa) (ca : CA) (hca : ca.cl = cl) : Cal (mkG gd K ca fa) P w mg base "_law_most" 1 2 r__law_most := by
  subst hca
  have hC := clsF (fa := fa) hT ca rfl
  have sc := sc__law_most
  obtain ⟨f, fd, F, hm, hb⟩ := hT.f__law_most
  refine ⟨f, fd, ps__law_most, fn_rf (g := (mkG gd K ca fa)) (N := N__law_most) (ps := ps__law_most) (k := 0) (m := p__law_most) F sc fun cdv A outer s H E hr => ?_, hm, F.kp, hb⟩
  exact (rs_cons (rs_own (i := 2) sc.nd (by rfl) (by first | exact .inl (by rfl) | exact .inr (by rfl)) (rn_lst (rf_args_cons (rf_c pe_int (fun _ _ => .int _)) rf_args_nil (by rfl))) (by rfl) (by first | exact .inl (by rfl) | exact .inr (by rfl))) (rs_cons (rs_for (passes_of rfl) (by rfl) (ri_seq (by rfl) (rf_frz (rf_var (i := 0) (by rfl) (by first | exact .inl (by rfl) | exact .inr (.inl (by rfl)) | exact .inr (.inr (by rfl))) (by decide) (by decide)))) (rg_name (i := 3) sc.nd (by rfl) (by first | exact .inl (by rfl) | exact .inr (by rfl)) (by first | exact .inl (by rfl) | exact .inr (by rfl))) (rs_one (rs_drop (rf_append (by rfl) (rf_var (i := 2) (by rfl) (by first | exact .inl (by rfl) | exact .inr (.inl (by rfl)) | exact .inr (.inr (by rfl))) (by decide) (by decide)) (rf_args_cons (rf_b1 cr_lenD ok_len (by rfl) (by exact hT.b_len) (by rfl) (rf_val (rn_lc (own := [("one", 4)]) (by rfl) sc.nd (ri_seq (by rfl) (rf_var (i := 0) (by rfl) (by first | exact .inl (by rfl) | exact .inr (.inl (by rfl)) | exact .inr (.inr (by rfl))) (by decide) (by decide))) (blkOk_by (by rfl)) (by decide) (fun _ _ _ _ _ => (rg_name (i := 4) sc.nd (by rfl) (by first | exact .inl (by rfl) | exact .inr (by rfl)) (by first | exact .inl (by rfl) | exact .inr (by rfl)))) (fun _ _ _ _ _ => (rts_one (rf_chainT op_le op_ltD ok_le ok_lt (rf_var (i := 3) (by rfl) (by first | exact .inl (by rfl) | exact .inr (.inl (by rfl)) | exact .inr (.inr (by rfl))) (by decide) (by decide)) (rf_var (i := 4) (by rfl) (by first | exact .inl (by rfl) | exact .inr (.inl (by rfl)) | exact .inr (.inr (by rfl))) (by decide) (by decide)) (rf_bin op_addD ok_add (rf_var (i := 3) (by rfl) (by first | exact .inl (by rfl) | exact .inr (.inl (by rfl)) | exact .inr (.inr (by rfl))) (by decide) (by decide)) (rf_var (i := 1) (by rfl) (by first | exact .inl (by rfl) | exact .inr (.inl (by rfl)) | exact .inr (.inr (by rfl))) (by decide) (by decide))) (by rfl)))) (fun _ _ _ _ _ => (rf_var (i := 4) (by rfl) (by first | exact .inl (by rfl) | exact .inr (.inl (by rfl)) | exact .inr (.inr (by rfl))) (by decide) (by decide))) (fun _ => rfl))) (by decide) (by decide) (by rfl) (by rfl)) rf_args_nil (by rfl)) (by rfl) (by rfl) (by rfl) (by rfl) (by rfl)) (by rfl))) (fun _ => rfl)) (rs_one (rs_ret (rf_b1 (cr_max (by rfl)) ok_max (by rfl) (by exact hT.b_max) (by rfl) (rf_var (i := 2) (by rfl) (by first | exact .inl (by rfl) | exact .inr (.inl (by rfl)) | exact .inr (.inr (by rfl))) (by decide) (by decide)) (by decide) (by decide) (by rfl) (by rfl))))))
def p__law_rows : MS := (sSeq (sPar [2, 3] [.v (mLst (mDs false [(mTup (mDs false []))])), .v (mLst (mDs false [(mTup (mDs false []))]))]) (sSeq (sFor (iR1 (mDs false [(mVar 0)])) (tgName 4) (sSeq (sSet 5 (mLst (mDs false []))) (sSeq (sFor (iH (mFrz (mVar 3))) (tgName 6) (sSet 5 (mBin addD (mVar 5) (mVal (nLc (iR2 (mDs false [(mIf (mTB (mBin nevD (mVar 6) (mTup (mDs false [])))) (mBin itemD (mVar 6) (m1 negO (mC (.int 1)))) (mC (.int 0))), (mBin addD (mVar 1) (mC (.int 1)))])) (tgName 7) mYes (mBin addD (mVar 6) (mTup (mDs false [(mVar 7)]))) [7]))))) (sPar [3, 2] [.v (mVar 5), .v (mBin addD (mVar 2) (mVar 5))])))) (sRet (mVar 2))))
def r__law_rows : List D → List D → OutC := runFn 8 2 p__law_rows
set_option maxHeartbeats 4000000 in
theorem ok__law_rows (hT : Txt K mg cl fa) (ca : CA) (hca : ca.cl = cl) : Cal (mkG gd K ca fa) P w mg base "_law_rows" 1 2 r__law_rows := by
  subst hca
  have hC := clsF (fa := fa) hT ca rfl
  have sc := sc__law_rows
  obtain ⟨f, fd, F, hm, hb⟩ := hT.f__law_rows
  refine ⟨f, fd, ps__law_rows, fn_rf (g := (mkG gd K ca fa)) (N := N__law_rows) (ps := ps__law_rows) (k := 0) (m := p__law_rows) F sc fun cdv A outer s H E hr => ?_, hm, F.kp, hb⟩
  exact (rs_cons (rs_par2 (i := 2) (j := 3) (by rfl) sc.nd (by rfl) (by rfl) (by decide) (by rfl) (by rfl) (rels_cons (rel_v (rf_lst (rf_args_cons (rf_tup rf_args_nil) rf_args_nil (by rfl)))) (rels_cons (rel_v (rf_lst (rf_args_cons (rf_tup rf_args_nil) rf_args_nil (by rfl)))) rels_nil (by rfl)) (by rfl)) (by rfl) (by rfl)) (rs_cons (rs_for (passes_of rfl) (by rfl) (ri_r1 (by rfl) (by exact hT.b_range) (rf_args_cons (rf_var (i := 0) (by rfl) (by first | exact .inl (by rfl) | exact .inr (.inl (by rfl)) | exact .inr (.inr (by rfl))) (by decide) (by decide)) rf_args_nil (by rfl)) (by rfl)) (rg_name (i := 4) sc.nd (by rfl) (by first | exact .inl (by rfl) | exact .inr (by rfl)) (by first | exact .inl (by rfl) | exact .inr (by rfl))) (rs_cons (rs_set (i := 5) sc.nd (by rfl) (by first | exact .inl (by rfl) | exact .inr (by rfl)) (rf_lst rf_args_nil) (by rfl) (by first | exact .inl (by rfl) | exact .inr (by rfl))) (rs_cons (rs_for (passes_of rfl) (by rfl) (ri_seq (by rfl) (rf_frz (rf_var (i := 3) (by rfl) (by first | exact .inl (by rfl) | exact .inr (.inl (by rfl)) | exact .inr (.inr (by rfl))) (by decide) (by decide)))) (rg_name (i := 6) sc.nd (by rfl) (by first | exact .inl (by rfl) | exact .inr (by rfl)) (by first | exact .inl (by rfl) | exact .inr (by rfl))) (rs_one (rs_set (i := 5) sc.nd (by rfl) (by first | exact .inl (by rfl) | exact .inr (by rfl)) (rf_bin op_addD ok_add (rf_var (i := 5) (by rfl) (by first | exact .inl (by rfl) | exact .inr (.inl (by rfl)) | exact .inr (.inr (by rfl))) (by decide) (by decide)) (rf_val (rn_lc (own := [("tick", 7)]) (by rfl) sc.nd (ri_r2 (by rfl) (by exact hT.b_range) (rf_args_cons (rf_ifE (rf_cmpT (op_neD hr.units) ok_nev (rf_var (i := 6) (by rfl) (by first | exact .inl (by rfl) | exact .inr (.inl (by rfl)) | exact .inr (.inr (by rfl))) (by decide) (by decide)) (rf_tup rf_args_nil) (by rfl)) (rf_sub (by rfl) (hu_of hr) (rf_var (i := 6) (by rfl) (by first | exact .inl (by rfl) | exact .inr (.inl (by rfl)) | exact .inr (.inr (by rfl))) (by decide) (by decide)) (rf_neg (rf_c pe_int (fun _ _ => .int _))) (fun _ _ => rfl)) (rf_c pe_int (fun _ _ => .int _))) (rf_args_cons (rf_bin op_addD ok_add (rf_var (i := 1) (by rfl) (by first | exact .inl (by rfl) | exact .inr (.inl (by rfl)) | exact .inr (.inr (by rfl))) (by decide) (by decide)) (rf_c pe_int (fun _ _ => .int _))) rf_args_nil (by rfl)) (by rfl)) (by rfl) (by rfl)) (blkOk_by (by rfl)) (by decide) (fun _ _ _ _ _ => (rg_name (i := 7) sc.nd (by rfl) (by first | exact .inl (by rfl) | exact .inr (by rfl)) (by first | exact .inl (by rfl) | exact .inr (by rfl)))) (fun _ _ _ _ _ => rts_nil) (fun _ _ _ _ _ => (rf_bin op_addD ok_add (rf_var (i := 6) (by rfl) (by first | exact .inl (by rfl) | exact .inr (.inl (by rfl)) | exact .inr (.inr (by rfl))) (by decide) (by decide)) (rf_tup (rf_args_cons (rf_var (i := 7) (by rfl) (by first | exact .inl (by rfl) | exact .inr (.inl (by rfl)) | exact .inr (.inr (by rfl))) (by decide) (by decide)) rf_args_nil (by rfl))))) (fun _ => rfl)))) (by rfl) (by first | exact .inl (by rfl) | exact .inr (by rfl)))) (fun _ => rfl)) (rs_one (rs_par2 (i := 3) (j := 2) (by rfl) sc.nd (by rfl) (by rfl) (by decide) (by rfl) (by rfl) (rels_cons (rel_v (rf_var (i := 5) (by rfl) (by first | exact .inl (by rfl) | exact .inr (.inl (by rfl)) | exact .inr (.inr (by rfl))) (by decide) (by decide))) (rels_cons (rel_v (rf_bin op_addD ok_add (rf_var (i := 2) (by rfl) (by first | exact .inl (by rfl) | exact .inr (.inl (by rfl)) | exact .inr (.inr (by rfl))) (by decide) (by decide)) (rf_var (i := 5) (by rfl) (by first | exact .inl (by rfl) | exact .inr (.inl (by rfl)) | exact .inr (.inr (by rfl))) (by decide) (by decide)))) rels_nil (by rfl)) (by rfl)) (by rfl) (by rfl))))) (fun _ => rfl)) (rs_one (rs_ret (rf_var (i := 2) (by rfl) (by first | exact .inl (by rfl) | exact .inr (.inl (by rfl)) | exact .inr (.inr (by rfl))) (by decide) (by decide))))))
def ocBool : Oc
  | 1 => r_Bears_bool
  | 4 => r_Passed_bool
  | _ => fun _ _ => .bad
theorem mth_bool (hT : Txt K mg cl fa) (ca : CA) (hca : ca.cl = cl) : Mth (mkG gd K ca fa) P w mg base ocBool 1 "__bool__" := by
  subst hca
  intro c i h
  replace h : mt_bool c = some i := h
  unfold mt_bool at h
  split at h <;> first | (cases h; done) | skip
  · cases h; obtain ⟨fd, F, h1, h2⟩ := okm_Bears_bool (P := P) (w := w) (base := base) hT ca rfl
    exact ⟨_, fd, _, by decide, F, h1, h2⟩
  · cases h; obtain ⟨fd, F, h1, h2⟩ := okm_Passed_bool (P := P) (w := w) (base := base) hT ca rfl
    exact ⟨_, fd, _, by decide, F, h1, h2⟩
def oc_shows : Oc
  | 3 => r_Bears_shows
  | 6 => r_Passed_shows
  | _ => fun _ _ => .bad
theorem mth_shows (hT : Txt K mg cl fa) (ca : CA) (hca : ca.cl = cl) : Mth (mkG gd K ca fa) P w mg base oc_shows 21 "shows" := by
  subst hca
  intro c i h
  replace h : mt_shows c = some i := h
  unfold mt_shows at h
  split at h <;> first | (cases h; done) | skip
  · cases h; obtain ⟨fd, F, h1, h2⟩ := okm_Bears_shows (P := P) (w := w) (base := base) hT ca rfl
    exact ⟨_, fd, _, by decide, F, h1, h2⟩
  · cases h; obtain ⟨fd, F, h1, h2⟩ := okm_Passed_shows (P := P) (w := w) (base := base) hT ca rfl
    exact ⟨_, fd, _, by decide, F, h1, h2⟩
end
end K03

set_option Elab.async false
set_option linter.all false
set_option maxRecDepth 100000
set_option maxHeartbeats 2000000
/-! K03: the law walked. -/
namespace K03
open PySem L2 PyProof.Rows Rf
def wrongE : Expr := match (defBody s_law).getD 17 (.Pass ⟨0, 0, 0, 0⟩) with
  | .Assign _ e _ => e
  | _ => .List [] ⟨0, 0, 0, 0⟩
def lamT (n : Nat) : LamT := match wrongE with
  | .List es _ => (match es.getD n (.List [] ⟨0, 0, 0, 0⟩) with
    | .Tuple (.Lambda p b s _ :: _) _ _ => ⟨p, b, s⟩
    | _ => ⟨defArgs (.Pass ⟨0, 0, 0, 0⟩), .List [] ⟨0, 0, 0, 0⟩, defScope (.Pass ⟨0, 0, 0, 0⟩)⟩)
  | _ => ⟨defArgs (.Pass ⟨0, 0, 0, 0⟩), .List [] ⟨0, 0, 0, 0⟩, defScope (.Pass ⟨0, 0, 0, 0⟩)⟩
def lt : Nat → Option LamT
  | 0 => some (lamT 0)
  | 1 => some (lamT 1)
  | 2 => some (lamT 2)
  | 3 => some (lamT 3)
  | 4 => some (lamT 4)
  | 5 => some (lamT 5)
  | 6 => some (lamT 6)
  | 7 => some (lamT 7)
  | 8 => some (lamT 8)
  | 9 => some (lamT 9)
  | 10 => some (lamT 10)
  | _ => none
def lp0 : M Hd := (mVal (nNew (fun _ => i_Faults) 3 3 (mDs false [(m1 negO (mC (.int 1))), (mC (.int 1))])))
def lp1 : M Hd := (mVal (nNew (fun _ => i_Faults) 3 3 (mDs false [(mC (.int 1)), (mC (.int 0))])))
def lp2 : M Hd := (mCall (fun _ => r_are_within) 0 2 (mDs false [(mC .non), (mLst (mDs false []))]))
def lp3 : M Hd := (mCall (fun _ => r_are_within) 0 2 (mDs false [(mVar 2), (mC (.int 3))]))
def lp4 : M Hd := (mCall (fun _ => r_are_within) 0 2 (mDs false [(mVar 2), (mLst (mDs false [(mC (.int 1)), (mC (.int 0))]))]))
def lp5 : M Hd := (mCall (fun _ => r_first_beyond) 0 3 (mDs false [(m1 negO (mC (.int 1))), (mC (.int 1)), (mLst (mDs false []))]))
def lp6 : M Hd := (mCall (fun _ => r_soonest) 0 2 (mDs false [(mVar 2), (mC (.int 1000))]))
def lp7 : M Hd := (mCall (fun _ => r_judge_bound) 0 3 (mDs false [(mC (.int 100)), (mC (.int 1)), (mVar 2)]))
def lp8 : M Hd := (mCall (fun _ => r_judge_bound) 0 3 (mDs false [(mC (.int 1)), (mC (.int 100)), (mVar 2)]))
def lp9 : M Hd := (mCall (fun _ => r_most_within) 0 2 (mDs false [(mC (.int 0)), (mVar 2)]))
def lp10 : M Hd := (mCall (fun _ => r_greatest_ticks) 0 2 (mDs false [(mC (.int 1)), (mC (.int 3))]))
def lamB0 : Nat → M Hd
  | 0 => lp0
  | 1 => lp1
  | 2 => lp2
  | 3 => lp3
  | 4 => lp4
  | 5 => lp5
  | 6 => lp6
  | 7 => lp7
  | 8 => lp8
  | 9 => lp9
  | 10 => lp10
  | _ => bad
def lamB (n : Nat) : M Hd := if (lt n).isSome = true then lamB0 n else bad
theorem lamB_none (n : Nat) (h : (lt n).isSome = false) : lamB n = bad := by unfold lamB; rw [h]; rfl
def subX (c h : Nat) : Option Bool := if c = 1 ∧ h = 1 then some true else none
def told_an : List (Nat × Nat × HE) := [(1, 1, .tup [.fld "part", .fld "place"]), (2, 1, .c (.str "large"))]
def m_law0 : MS := (sSet 1 (mBox (nLst (mDs false [(mVar 0), (mC (.int 0))]))))
def m_law1 : MS := (sPar [2, 3, 4] [.v (mVal (nNew (fun _ => i_Faults) 3 3 (mDs false [(mCall (fun _ => r__law_take) 0 2 (mDs false [(mVar 1), (mC (.int 4))])), (mBin addD (mC (.int 1)) (mCall (fun _ => r__law_take) 0 2 (mDs false [(mVar 1), (mC (.int 5))])))]))), .f (nLst (mDs false [])), .v (mC (.int 0))])
def m_law2 : MS := (sFor (iR1 (mDs false [(mCall (fun _ => r__law_take) 0 2 (mDs false [(mVar 1), (mC (.int 9))]))])) (tgName 5) (sSeq (sSet 4 (mBin addD (mVar 4) (mCall (fun _ => r__law_take) 0 2 (mDs false [(mVar 1), (mC (.int 3))])))) (sDrop (mMut isLst appD (mVar 3) (mDs false [(mVar 4)])))))
def m_law3 : MS := (sIf (mTB (mBin nevD (mCall (fun _ => r_are_within) 0 2 (mDs false [(mVar 2), (m1 tupO (mVar 3))])) (mBin leD (mCall (fun _ => r__law_most) 0 2 (mDs false [(mVar 3), (mFld gd "ticks" (mVar 2))])) (mFld gd "many" (mVar 2))))) (sRet (mC (.bl false))) sPass)
def m_law4 : MS := (sPar [6, 7] [.v (mCall (fun _ => r__law_take) 0 2 (mDs false [(mVar 1), (mC (.int 4))])), .v (mBin addD (mC (.int 1)) (mCall (fun _ => r__law_take) 0 2 (mDs false [(mVar 1), (mC (.int 6))])))])
def m_law5 : MS := (sSet 8 (mVal (nLc (iR1 (mDs false [(m1 lenO (mVar 3))])) (tgName 9) (mTB (mBin gtD (m1 lenO (mVal (nLc (iH (mSlice (mVar 3) none (some (mBin addD (mVar 9) (mC (.int 1)))))) (tgName 10) (mTB (mBin gtD (mVar 10) (mBin subD (mBin itemD (mVar 3) (mVar 9)) (mVar 7)))) (mVar 10) [10]))) (mVar 6))) (mVar 9) [9])))
def m_law6 : MS := (sIf (mOrT [(mTB (mBin nevD (mCall (fun _ => r_first_beyond) 0 3 (mDs false [(mVar 6), (mVar 7), (mVar 3)])) (mIf (mTB (mBin nevD (mVar 8) (mLst (mDs false [])))) (mBin itemD (mVar 8) (mC (.int 0))) (mC .non)))), (mTB (mBin nevD (mBin eqvD (mVar 8) (mLst (mDs false []))) (mBin leD (mCall (fun _ => r__law_most) 0 2 (mDs false [(mVar 3), (mVar 7)])) (mVar 6))))]) (sRet (mC (.bl false))) sPass)
def m_law7 : MS := (sSet 11 (mVal (nLc (iH (mCall (fun _ => r__law_rows) 0 2 (mDs false [(mC (.int 4)), (mC (.int 6))]))) (tgName 12) (mTB (mBin leD (mCall (fun _ => r__law_most) 0 2 (mDs false [(mVar 12), (mFld gd "ticks" (mVar 2))])) (mFld gd "many" (mVar 2)))) (mVar 12) [12])))
def m_law8 : MS := (sFor (iR1 (mDs false [(mC (.int 5))])) (tgName 13) (sSeq (sSet 14 (mVal (nLc (iH (mVar 11)) (tgName 12) (mTB (mBin eqvD (m1 lenO (mVar 12)) (mVar 13))) (mVar 12) [12]))) (sSeq (sSet 15 (mCall (fun _ => r_soonest) 0 2 (mDs false [(mVar 2), (mVar 13)]))) (sSeq (sIf (mOrT [(mAndT [(mTB (mBin eqvD (mFld gd "many" (mVar 2)) (mC (.int 0)))), (mTB (mBin nevD (mVar 15) (mIf (mTB (mBin eqvD (mVar 13) (mC (.int 0)))) (mLst (mDs false [])) (mC .non))))]), (mAndT [(mTB (mBin gtD (mFld gd "many" (mVar 2)) (mC (.int 0)))), (mOrT [(mTB (mBin nevD (m1 lenO (mVar 15)) (mVar 13))), (mNotT (mTV (mCall (fun _ => r_are_within) 0 2 (mDs false [(mVar 2), (mVar 15)])))), (mTB (mBin nevD (mVar 15) (mVal (n1 srtO (mVar 15)))))])])]) (sRet (mC (.bl false))) sPass) (sSeq (sIf (mAndT [(mTB (mBin gtD (mFld gd "many" (mVar 2)) (mC (.int 0)))), (mTB (mBin nevD (mVar 14) (mLst (mDs false [])))), (mOrT [(mTV (m1 anyO (mVal (nLc (iH (mVar 14)) (tgName 12) mYes (m1 anyO (mVal (nLc (iZip (mVar 12) (mVar 15)) (tgTup 2 (tgsCons (tgName 10) (tgsCons (tgName 16) tgsNil))) mYes (mBin ltD (mVar 10) (mVar 16)) [10, 16]))) [12])))), (mAndT [(mTB (mBin nevD (m1 minO (mVal (nLc (iH (mVar 14)) (tgName 12) mYes (mIf (mTB (mBin nevD (mVar 12) (mTup (mDs false [])))) (mBin subD (mBin itemD (mVar 12) (m1 negO (mC (.int 1)))) (mBin itemD (mVar 12) (mC (.int 0)))) (mC (.int 0))) [12]))) (mCall (fun _ => r_span_of) 0 2 (mDs false [(mVar 2), (mVar 13)])))), (mTB (mBin nevD (mVar 15) (mLst (mDs false [])))), (mTB (mBin leD (mBin itemD (mVar 15) (m1 negO (mC (.int 1)))) (mC (.int 6))))])])]) (sRet (mC (.bl false))) sPass) (sIf (mTB (mBin nevD (mCall (fun _ => r_span_of) 0 2 (mDs false [(mVar 2), (mVar 13)])) (mIf (mTB (mBin isnD (mVar 15) (mC .non))) (mC .non) (mIf (mTB (mBin nevD (mVar 15) (mLst (mDs false [])))) (mBin subD (mBin itemD (mVar 15) (m1 negO (mC (.int 1)))) (mBin itemD (mVar 15) (mC (.int 0)))) (mC (.int 0)))))) (sRet (mC (.bl false))) sPass))))))
def m_law9 : MS := (sSet 17 (m1 maxO (mVal (nLc (iH (mVar 11)) (tgName 12) mYes (mCall (fun _ => r__law_most) 0 2 (mDs false [(mVar 12), (mVar 7)])) [12]))))
def m_law10 : MS := (sIf (mOrT [(mTB (mBin nevD (mCall (fun _ => r_most_within) 0 2 (mDs false [(mVar 7), (mVar 2)])) (mBin mulD (mBin fdivD (mBin subD (mBin addD (mVar 7) (mFld gd "ticks" (mVar 2))) (mC (.int 1))) (mFld gd "ticks" (mVar 2))) (mFld gd "many" (mVar 2))))), (mTB (mBin nevD (mCall (fun _ => r_least_most) 0 2 (mDs false [(mVar 7), (mVar 2)])) (mCall (fun _ => r_most_within) 0 2 (mDs false [(mVar 7), (mVar 2)])))), (mTB (mBin gtD (mVar 17) (mCall (fun _ => r_most_within) 0 2 (mDs false [(mVar 7), (mVar 2)])))), (mAndT [(mTB (mBin leD (mCall (fun _ => r_most_within) 0 2 (mDs false [(mVar 7), (mVar 2)])) (mC (.int 4)))), (mTB (mBin leD (mVar 7) (mC (.int 7)))), (mTB (mBin nevD (mVar 17) (mCall (fun _ => r_most_within) 0 2 (mDs false [(mVar 7), (mVar 2)]))))])]) (sRet (mC (.bl false))) sPass)
def m_law11 : MS := (sSet 18 (mCall (fun _ => r_judge_bound) 0 3 (mDs false [(mVar 6), (mVar 7), (mVar 2)])))
def m_law12 : MS := (sIf (mOrT [(mTB (mBin nevD (mBoolI gd ocBool (mVar 18)) (mBin leD (mCall (fun _ => r_most_within) 0 2 (mDs false [(mVar 7), (mVar 2)])) (mVar 6)))), (mAndT [(mTruI gd ocBool (mVar 18)), (mTB (mCmpI gd ocEq true (mVar 18) (mVal (nNew (fun _ => i_Bears) 4 2 (mDs false [(mCall (fun _ => r_most_within) 0 2 (mDs false [(mVar 7), (mVar 2)]))])))))]), (mNotT (mTV (mMeth gd oc_shows false "shows" (mVar 18) (mDs false [(mVar 6), (mVar 7), (mVar 2)])))), (mAndT [(mNotT (mTruI gd ocBool (mVar 18))), (mTB (mBin nevD (mVal (n1 lstO (mFld gd "falls" (mVar 18)))) (mCall (fun _ => r_soonest) 0 2 (mDs false [(mVar 2), (mBin addD (mVar 6) (mC (.int 1)))]))))])]) (sRet (mC (.bl false))) sPass)
def m_law13 : MS := (sFor (iH (mVal (n1 (stepD 7) (mVar 11)))) (tgName 12) (sSeq (sSet 19 (mAndV [(mBin nevD (mVar 12) (mTup (mDs false []))), (mBin eqvD (mVal (nLc (iR1 (mDs false [(m1 lenO (mVar 12))])) (tgName 9) (mTB (mBin gtD (m1 lenO (mVal (nLc (iH (mSlice (mVar 12) none (some (mBin addD (mVar 9) (mC (.int 1)))))) (tgName 10) (mTB (mBin gtD (mVar 10) (mBin subD (mBin itemD (mVar 12) (mVar 9)) (mVar 7)))) (mVar 10) [10]))) (mVar 6))) (mVar 9) [9])) (mLst (mDs false [(mBin subD (m1 lenO (mVar 12)) (mC (.int 1)))])))])) (sIf (mOrT [(mTB (mBin nevD (mMeth gd oc_shows false "shows" (mVal (nNew (fun _ => i_Passed) 5 2 (mDs false [(mVar 12)]))) (mDs false [(mVar 6), (mVar 7), (mVar 2)])) (mVar 19))), (mAndT [(mTV (mVar 19)), (mTruI gd ocBool (mVar 18))])]) (sRet (mC (.bl false))) sPass)))
def m_law14 : MS := (sIf (mOrT [(mTV (mMeth gd oc_shows false "shows" (mVal (nNew (fun _ => i_Passed) 5 2 (mDs false [(mTup (mDs false [(mC .non)]))]))) (mDs false [(mVar 6), (mVar 7), (mVar 2)]))), (mTV (mMeth gd oc_shows false "shows" (mVal (nNew (fun _ => i_Passed) 5 2 (mDs false [(mTup (mDs false [(mC (.int 1)), (mC (.int 0))]))]))) (mDs false [(mC (.int 0)), (mC (.int 9)), (mVar 2)]))), (mTV (mMeth gd oc_shows false "shows" (mVal (nNew (fun _ => i_Passed) 5 2 (mDs false [(mTup (mDs false [(mC (.str "a"))]))]))) (mDs false [(mC (.int 0)), (mC (.int 1)), (mVar 2)]))), (mTV (mMeth gd oc_shows false "shows" (mVal (nNew (fun _ => i_Passed) 5 2 (mDs false [(mTup (mDs false []))]))) (mDs false [(mC (.int 0)), (mC (.int 1)), (mVar 2)]))), (mTV (mMeth gd oc_shows false "shows" (mVal (nNew (fun _ => i_Bears) 4 2 (mDs false [(mC .non)]))) (mDs false [(mC (.int 99)), (mC (.int 1)), (mVar 2)])))]) (sRet (mC (.bl false))) sPass)
def m_law15 : MS := (sSet 20 (mVal (nLc (iR2 (mDs false [(mC (.int 1)), (mC (.int 100))])) (tgName 16) (mTB (mBin leD (mCall (fun _ => r_most_within) 0 2 (mDs false [(mVar 16), (mVar 2)])) (mVar 6))) (mVar 16) [16])))
def m_law16 : MS := (sIf (mOrT [(mTB (mBin nevD (mCall (fun _ => r_greatest_ticks) 0 2 (mDs false [(mVar 6), (mVar 2)])) (mIf (mTB (mBin nevD (mVar 20) (mLst (mDs false [])))) (mBin itemD (mVar 20) (m1 negO (mC (.int 1)))) (mC (.int 0))))), (mTB (mBin nevD (mVar 20) (mVal (nLRg2 (mC (.int 1)) (mBin addD (m1 lenO (mVar 20)) (mC (.int 1)))))))]) (sRet (mC (.bl false))) sPass)
def m_law17 : MS := (sSet 21 (mLst (mDs false [(mTup (mDs false [(mLam 0), (mTup (mDs false [(mC (.str "many")), (mC .non)]))])), (mTup (mDs false [(mLam 1), (mTup (mDs false [(mC (.str "ticks")), (mC .non)]))])), (mTup (mDs false [(mLam 2), (mTup (mDs false [(mC (.str "faults")), (mC .non)]))])), (mTup (mDs false [(mLam 3), (mTup (mDs false [(mC (.str "falls")), (mC .non)]))])), (mTup (mDs false [(mLam 4), (mTup (mDs false [(mC (.str "falls")), (mC (.int 1))]))])), (mTup (mDs false [(mLam 5), (mTup (mDs false [(mC (.str "most")), (mC .non)]))])), (mTup (mDs false [(mLam 6), (mTup (mDs false [(mC (.str "many")), (mC .non)]))])), (mTup (mDs false [(mLam 7), (mTup (mDs false [(mC (.str "most")), (mC .non)]))])), (mTup (mDs false [(mLam 8), (mTup (mDs false [(mC (.str "ticks")), (mC .non)]))])), (mTup (mDs false [(mLam 9), (mTup (mDs false [(mC (.str "ticks")), (mC .non)]))])), (mTup (mDs false [(mLam 10), (mTup (mDs false [(mC (.str "faults")), (mC .non)]))]))])))
def m_law18 : MS := (sRet (mAndV [(m1 allO (mVal (nLc (iH (mVar 21)) (tgTup 2 (tgsCons (tgName 22) (tgsCons (tgName 23) tgsNil))) mYes (mBin eqvD (mTold subX lamB told_an (some (.str "")) (mVar 22)) (mVar 23)) [22, 23]))), (mCmpI gd ocEq true (mVal (nNew (fun _ => i_Bears) 4 2 (mDs false [(mC (.int 1))]))) (mVal (nNew (fun _ => i_Bears) 4 2 (mDs false [(mC (.int 2))])))), (mCmpI gd ocEq true (mVal (nNew (fun _ => i_Passed) 5 2 (mDs false [(mTup (mDs false [(mC (.int 1))]))]))) (mVal (nNew (fun _ => i_Passed) 5 2 (mDs false [(mTup (mDs false [(mC (.int 2))]))])))), (mCmpI gd ocEq false (mVal (nNew (fun _ => i_Faults) 3 3 (mDs false [(mFld gd "many" (mVar 2)), (mFld gd "ticks" (mVar 2))]))) (mVar 2))]))
def p_law : MS := (sSeq m_law0 (sSeq m_law1 (sSeq m_law2 (sSeq m_law3 (sSeq m_law4 (sSeq m_law5 (sSeq m_law6 (sSeq m_law7 (sSeq m_law8 (sSeq m_law9 (sSeq m_law10 (sSeq m_law11 (sSeq m_law12 (sSeq m_law13 (sSeq m_law14 (sSeq m_law15 (sSeq m_law16 (sSeq m_law17 m_law18))))))))))))))))))
section
variable {P : Program} {w : World} {K : PySem.W.Frag} {mg : Str → Option Value} {base : Heap} {cl fa : Nat → Addr}
theorem mem1 {q : Str} {P : Addr} {p : Addr × Str} (h : p ∈ [(P, q)]) : p.2 = q := by rw [List.mem_singleton.mp h]
theorem hsubX (hT : Txt K mg cl fa) (ca : CA) (hca : ca.cl = cl) : XSub (mkG gd K ca fa) subX := by
  subst hca
  intro c h b e
  unfold subX at e
  split at e
  · rename_i z; obtain ⟨rfl, rfl⟩ := z; cases e; exact hT.xe_1
  · cases e
theorem hbindX : ∀ n t, lt n = some t → ∀ (q : Str) (cl : List (Str × Addr)) (pm cv ctv : Value), bindArgs (PySem.W.kla_fn "<lambda>" q t.params t.body t.scope cl pm cv ctv) ⟨[], []⟩ = pure [] := by
  intro n t h q cl pm cv ctv
  unfold lt at h
  split at h <;> first | (cases h; rfl) | cases h
theorem hLamX {f c Pt : Addr} {A : Around} {outer : List Env} {s : Shared} {H : Hp} {E : XK} : ∀ n t, lt n = some t → LamX.LamS (cxOf (L2.CX P w) P w K mg base N_law "law" (defScope s_law) f (.ref c) A outer s H E).env.scope t.scope := by
  intro n t h
  unfold lt at h
  split at h <;> first | (cases h; exact LamX.lamS_by (by rfl)) | cases h
theorem hAnsX (hT : Txt K mg cl fa) (ca : CA) (hca : ca.cl = cl) (Y : Cx) (hK : Y.K = K) (hm : Y.mg = mg) (gf : Addr) (cdv : Value) : ∀ s H, AnsOk (mkG gd K ca fa) (ZC Y N__law_refused "_law_refused" (defScope s__law_refused) gf cdv s H) (match (defBody s__law_refused).getD 0 (.Pass ⟨0, 0, 0, 0⟩) with | .Try _ h _ _ _ => h | _ => []) told_an := by
  subst hca hK hm
  intro s H
  exact .consAs ⟨by rfl, by decide, .inl (by exact hT.g_BadPart)⟩ (by rfl) (by rfl) (fun a oe cls d pn hz hf => rx_ret (rx_tup (rxs_cons (rx_fld (by exact hT.xf_1) (by exact hT.xn_1_part) hz hf (by rfl) (by first | exact .inl (by rfl) | exact .inr (.inl (by rfl)) | exact .inr (.inr (by rfl))) (by decide) (by decide) (by rfl)) (rxs_cons (rx_fld (by exact hT.xf_1) (by exact hT.xn_1_place) hz hf (by rfl) (by first | exact .inl (by rfl) | exact .inr (.inl (by rfl)) | exact .inr (.inr (by rfl))) (by decide) (by decide) (by rfl)) rxs_nil (by rfl)) (by rfl)) (by decide) (by decide)))
    (.consAs ⟨by rfl, by decide, .inl (by exact hT.g_TooLarge)⟩ (by rfl) (by rfl) (fun a oe cls d pn hz hf => rx_ret (rx_c pe_str (fun _ _ => .str _))) .nil)
set_option maxHeartbeats 8000000 in
theorem lams (hT : Txt K mg cl fa) {f c Pt : Addr} {A : Around} {outer : List Env} {s : Shared} {H : Hp} {E : XK} : ∀ n t, lt n = some t → ∀ (f0 c0 : Addr) (A1 : Around) (outer1 : List Env) (s1 : Shared) (H1 : Hp) (E1 : XK), Room 24 (A1.deeper (LamX.lamEnv (cxOf (L2.CX P w) P w K mg base N_law "law" (defScope s_law) f (.ref c) A outer s H E) t.scope s1.heap.objs.size f0 c0)) → PE (LamX.lamCx (cxOf (L2.CX P w) P w K mg base N_law "law" (defScope s_law) f (.ref c) A outer s H E) A1 outer1 s1 H1 E1 t.scope f0 c0) t.body (RE (mkG gd K (lawCA cl lt (envOfC "law" (defScope s_law) s.heap.objs.size f (.ref c)) Pt) fa) (fun cls d _ H' => E1 cls d H') (lamB n)) := by
  intro n t h f0 c0 A1 outer1 s1 H1 E1 hr
  generalize hG : (mkG gd K (lawCA cl lt (envOfC "law" (defScope s_law) s.heap.objs.size f (.ref c)) Pt) fa) = G
  have hC : ClsF G := by subst hG; exact clsF (fa := fa) hT _ rfl
  have h_shows : Mth G P w mg base oc_shows 21 "shows" := by subst hG; exact mth_shows hT _ rfl
  have hEq : Mth G P w mg base ocEq 1 "__eq__" := by subst hG; exact mth_eq hT _ rfl
  have k_Bears : Mkr G P w mg base "Bears" 4 1 2 i_Bears := by subst hG; exact mk_Bears hT _ rfl
  have k_Faults : Mkr G P w mg base "Faults" 3 13 3 i_Faults := by subst hG; exact mk_Faults hT _ rfl
  have k_Passed : Mkr G P w mg base "Passed" 5 1 2 i_Passed := by subst hG; exact mk_Passed hT _ rfl
  have c__law_most : Cal G P w mg base "_law_most" 1 2 r__law_most := by subst hG; exact ok__law_most hT _ rfl
  have c__law_rows : Cal G P w mg base "_law_rows" 1 2 r__law_rows := by subst hG; exact ok__law_rows hT _ rfl
  have c__law_take : Cal G P w mg base "_law_take" 5 2 r__law_take := by subst hG; exact ok__law_take hT _ rfl
  have c_are_within : Cal G P w mg base "are_within" 13 2 r_are_within := by subst hG; exact ok_are_within hT _ rfl
  have hBool : Mth G P w mg base ocBool 1 "__bool__" := by subst hG; exact mth_bool hT _ rfl
  have c_first_beyond : Cal G P w mg base "first_beyond" 13 3 r_first_beyond := by subst hG; exact ok_first_beyond hT _ rfl
  have c_greatest_ticks : Cal G P w mg base "greatest_ticks" 17 2 r_greatest_ticks := by subst hG; exact ok_greatest_ticks hT _ rfl
  have c_judge_bound : Cal G P w mg base "judge_bound" 17 3 r_judge_bound := by subst hG; exact ok_judge_bound hT _ rfl
  have c_least_most : Cal G P w mg base "least_most" 17 2 r_least_most := by subst hG; exact ok_least_most hT _ rfl
  have c_most_within : Cal G P w mg base "most_within" 13 2 r_most_within := by subst hG; exact ok_most_within hT _ rfl
  have c_soonest : Cal G P w mg base "soonest" 13 2 r_soonest := by subst hG; exact ok_soonest hT _ rfl
  have c_span_of : Cal G P w mg base "span_of" 17 2 r_span_of := by subst hG; exact ok_span_of hT _ rfl
  subst hG
  unfold lt at h
  split at h
  · cases h; rw [show lamB 0 = lp0 from rfl]; exact (rf_val (rn_mk (by rfl) (by exact k_Faults) (takes_of rfl rfl rfl rfl) (hr.mono (by decide)) (by rfl) (rf_args_cons (rf_neg (rf_c pe_int (fun _ _ => .int _))) (rf_args_cons (rf_c pe_int (fun _ _ => .int _)) rf_args_nil (by rfl)) (by rfl)) (by decide) (by rfl) (by rfl)))
  · cases h; rw [show lamB 1 = lp1 from rfl]; exact (rf_val (rn_mk (by rfl) (by exact k_Faults) (takes_of rfl rfl rfl rfl) (hr.mono (by decide)) (by rfl) (rf_args_cons (rf_c pe_int (fun _ _ => .int _)) (rf_args_cons (rf_c pe_int (fun _ _ => .int _)) rf_args_nil (by rfl)) (by rfl)) (by decide) (by rfl) (by rfl)))
  · cases h; rw [show lamB 2 = lp2 from rfl]; exact (rf_cal (by rfl) (by exact c_are_within) (takes_of rfl rfl rfl rfl) (hr.mono (by decide)) (by rfl) (rf_args_cons (rf_c pe_non (fun _ _ => .non)) (rf_args_cons (rf_lst rf_args_nil) rf_args_nil (by rfl)) (by rfl)) (by decide) (by rfl) (by rfl))
  · cases h; rw [show lamB 3 = lp3 from rfl]; exact (rf_cal (by rfl) (by exact c_are_within) (takes_of rfl rfl rfl rfl) (hr.mono (by decide)) (by rfl) (rf_args_cons (rf_var (i := 2) (by rfl) (by first | exact .inl (by rfl) | exact .inr (.inl (by rfl)) | exact .inr (.inr (by rfl))) (by decide) (by decide)) (rf_args_cons (rf_c pe_int (fun _ _ => .int _)) rf_args_nil (by rfl)) (by rfl)) (by decide) (by rfl) (by rfl))
  · cases h; rw [show lamB 4 = lp4 from rfl]; exact (rf_cal (by rfl) (by exact c_are_within) (takes_of rfl rfl rfl rfl) (hr.mono (by decide)) (by rfl) (rf_args_cons (rf_var (i := 2) (by rfl) (by first | exact .inl (by rfl) | exact .inr (.inl (by rfl)) | exact .inr (.inr (by rfl))) (by decide) (by decide)) (rf_args_cons (rf_lst (rf_args_cons (rf_c pe_int (fun _ _ => .int _)) (rf_args_cons (rf_c pe_int (fun _ _ => .int _)) rf_args_nil (by rfl)) (by rfl))) rf_args_nil (by rfl)) (by rfl)) (by decide) (by rfl) (by rfl))
  · cases h; rw [show lamB 5 = lp5 from rfl]; exact (rf_cal (by rfl) (by exact c_first_beyond) (takes_of rfl rfl rfl rfl) (hr.mono (by decide)) (by rfl) (rf_args_cons (rf_neg (rf_c pe_int (fun _ _ => .int _))) (rf_args_cons (rf_c pe_int (fun _ _ => .int _)) (rf_args_cons (rf_lst rf_args_nil) rf_args_nil (by rfl)) (by rfl)) (by rfl)) (by decide) (by rfl) (by rfl))
  · cases h; rw [show lamB 6 = lp6 from rfl]; exact (rf_cal (by rfl) (by exact c_soonest) (takes_of rfl rfl rfl rfl) (hr.mono (by decide)) (by rfl) (rf_args_cons (rf_var (i := 2) (by rfl) (by first | exact .inl (by rfl) | exact .inr (.inl (by rfl)) | exact .inr (.inr (by rfl))) (by decide) (by decide)) (rf_args_cons (rf_c pe_int (fun _ _ => .int _)) rf_args_nil (by rfl)) (by rfl)) (by decide) (by rfl) (by rfl))
  · cases h; rw [show lamB 7 = lp7 from rfl]; exact (rf_cal (by rfl) (by exact c_judge_bound) (takes_of rfl rfl rfl rfl) (hr.mono (by decide)) (by rfl) (rf_args_cons (rf_c pe_int (fun _ _ => .int _)) (rf_args_cons (rf_c pe_int (fun _ _ => .int _)) (rf_args_cons (rf_var (i := 2) (by rfl) (by first | exact .inl (by rfl) | exact .inr (.inl (by rfl)) | exact .inr (.inr (by rfl))) (by decide) (by decide)) rf_args_nil (by rfl)) (by rfl)) (by rfl)) (by decide) (by rfl) (by rfl))
  · cases h; rw [show lamB 8 = lp8 from rfl]; exact (rf_cal (by rfl) (by exact c_judge_bound) (takes_of rfl rfl rfl rfl) (hr.mono (by decide)) (by rfl) (rf_args_cons (rf_c pe_int (fun _ _ => .int _)) (rf_args_cons (rf_c pe_int (fun _ _ => .int _)) (rf_args_cons (rf_var (i := 2) (by rfl) (by first | exact .inl (by rfl) | exact .inr (.inl (by rfl)) | exact .inr (.inr (by rfl))) (by decide) (by decide)) rf_args_nil (by rfl)) (by rfl)) (by rfl)) (by decide) (by rfl) (by rfl))
  · cases h; rw [show lamB 9 = lp9 from rfl]; exact (rf_cal (by rfl) (by exact c_most_within) (takes_of rfl rfl rfl rfl) (hr.mono (by decide)) (by rfl) (rf_args_cons (rf_c pe_int (fun _ _ => .int _)) (rf_args_cons (rf_var (i := 2) (by rfl) (by first | exact .inl (by rfl) | exact .inr (.inl (by rfl)) | exact .inr (.inr (by rfl))) (by decide) (by decide)) rf_args_nil (by rfl)) (by rfl)) (by decide) (by rfl) (by rfl))
  · cases h; rw [show lamB 10 = lp10 from rfl]; exact (rf_cal (by rfl) (by exact c_greatest_ticks) (takes_of rfl rfl rfl rfl) (hr.mono (by decide)) (by rfl) (rf_args_cons (rf_c pe_int (fun _ _ => .int _)) (rf_args_cons (rf_c pe_int (fun _ _ => .int _)) rf_args_nil (by rfl)) (by rfl)) (by decide) (by rfl) (by rfl))
  · cases h
set_option maxHeartbeats 16000000 in
theorem walk_law (hT : Txt K mg cl fa) (hR : ∃ f fd, Fun K "_law_refused" "_law_refused" s__law_refused f fd ∧ mg "_law_refused" = some (.ref f) ∧ Binds K fd ps__law_refused []) {f c Pt : Addr} {A : Around} {outer : List Env} {s : Shared} {H : Hp} {E : XK} (TB : LamX.TabB base mg c Pt) (hr : Room 30 (A.deeper (envOfC "law" (defScope s_law) s.heap.objs.size f (.ref c)))) :
    PSs (cxOf (L2.CX P w) P w K mg base N_law "law" (defScope s_law) f (.ref c) A outer s H E) (defBody s_law) (RS (mkG gd K (lawCA cl lt (envOfC "law" (defScope s_law) s.heap.objs.size f (.ref c)) Pt) fa) (fun cls d _ H' => E cls d H') p_law) := by
  have hC : ClsF (mkG gd K (lawCA cl lt (envOfC "law" (defScope s_law) s.heap.objs.size f (.ref c)) Pt) fa) := clsF (fa := fa) hT _ rfl
  have h_shows : Mth (mkG gd K (lawCA cl lt (envOfC "law" (defScope s_law) s.heap.objs.size f (.ref c)) Pt) fa) P w mg base oc_shows 21 "shows" := mth_shows hT _ rfl
  have hEq : Mth (mkG gd K (lawCA cl lt (envOfC "law" (defScope s_law) s.heap.objs.size f (.ref c)) Pt) fa) P w mg base ocEq 1 "__eq__" := mth_eq hT _ rfl
  have k_Bears : Mkr (mkG gd K (lawCA cl lt (envOfC "law" (defScope s_law) s.heap.objs.size f (.ref c)) Pt) fa) P w mg base "Bears" 4 1 2 i_Bears := mk_Bears hT _ rfl
  have k_Faults : Mkr (mkG gd K (lawCA cl lt (envOfC "law" (defScope s_law) s.heap.objs.size f (.ref c)) Pt) fa) P w mg base "Faults" 3 13 3 i_Faults := mk_Faults hT _ rfl
  have k_Passed : Mkr (mkG gd K (lawCA cl lt (envOfC "law" (defScope s_law) s.heap.objs.size f (.ref c)) Pt) fa) P w mg base "Passed" 5 1 2 i_Passed := mk_Passed hT _ rfl
  have c__law_most : Cal (mkG gd K (lawCA cl lt (envOfC "law" (defScope s_law) s.heap.objs.size f (.ref c)) Pt) fa) P w mg base "_law_most" 1 2 r__law_most := ok__law_most hT _ rfl
  have c__law_rows : Cal (mkG gd K (lawCA cl lt (envOfC "law" (defScope s_law) s.heap.objs.size f (.ref c)) Pt) fa) P w mg base "_law_rows" 1 2 r__law_rows := ok__law_rows hT _ rfl
  have c__law_take : Cal (mkG gd K (lawCA cl lt (envOfC "law" (defScope s_law) s.heap.objs.size f (.ref c)) Pt) fa) P w mg base "_law_take" 5 2 r__law_take := ok__law_take hT _ rfl
  have c_are_within : Cal (mkG gd K (lawCA cl lt (envOfC "law" (defScope s_law) s.heap.objs.size f (.ref c)) Pt) fa) P w mg base "are_within" 13 2 r_are_within := ok_are_within hT _ rfl
  have hBool : Mth (mkG gd K (lawCA cl lt (envOfC "law" (defScope s_law) s.heap.objs.size f (.ref c)) Pt) fa) P w mg base ocBool 1 "__bool__" := mth_bool hT _ rfl
  have c_first_beyond : Cal (mkG gd K (lawCA cl lt (envOfC "law" (defScope s_law) s.heap.objs.size f (.ref c)) Pt) fa) P w mg base "first_beyond" 13 3 r_first_beyond := ok_first_beyond hT _ rfl
  have c_greatest_ticks : Cal (mkG gd K (lawCA cl lt (envOfC "law" (defScope s_law) s.heap.objs.size f (.ref c)) Pt) fa) P w mg base "greatest_ticks" 17 2 r_greatest_ticks := ok_greatest_ticks hT _ rfl
  have c_judge_bound : Cal (mkG gd K (lawCA cl lt (envOfC "law" (defScope s_law) s.heap.objs.size f (.ref c)) Pt) fa) P w mg base "judge_bound" 17 3 r_judge_bound := ok_judge_bound hT _ rfl
  have c_least_most : Cal (mkG gd K (lawCA cl lt (envOfC "law" (defScope s_law) s.heap.objs.size f (.ref c)) Pt) fa) P w mg base "least_most" 17 2 r_least_most := ok_least_most hT _ rfl
  have c_most_within : Cal (mkG gd K (lawCA cl lt (envOfC "law" (defScope s_law) s.heap.objs.size f (.ref c)) Pt) fa) P w mg base "most_within" 13 2 r_most_within := ok_most_within hT _ rfl
  have c_soonest : Cal (mkG gd K (lawCA cl lt (envOfC "law" (defScope s_law) s.heap.objs.size f (.ref c)) Pt) fa) P w mg base "soonest" 13 2 r_soonest := ok_soonest hT _ rfl
  have c_span_of : Cal (mkG gd K (lawCA cl lt (envOfC "law" (defScope s_law) s.heap.objs.size f (.ref c)) Pt) fa) P w mg base "span_of" 17 2 r_span_of := ok_span_of hT _ rfl
  have sc := sc_law
  have hl : LamsOk (mkG gd K (lawCA cl lt (envOfC "law" (defScope s_law) s.heap.objs.size f (.ref c)) Pt) fa) (envOfC "law" (defScope s_law) s.heap.objs.size f (.ref c)) lt := law_lams
  have hLam := hLamX (P := P) (w := w) (K := K) (mg := mg) (base := base) (f := f) (c := c) (Pt := Pt) (A := A) (outer := outer) (s := s) (H := H) (E := E)
  have hbind := hbindX
  obtain ⟨ft, fdt, Ft, hm_told, hb_told⟩ := hR
  obtain ⟨ocT, odT, kVT, docT, pmT, anT, cdvT, ctT, oslT, rfl, lk_told, hc_told⟩ := Ft.ex
  have hk_told := Ft.kp
  have hsub := hsubX (fa := fa) hT (lawCA cl lt (envOfC "law" (defScope s_law) s.heap.objs.size f (.ref c)) Pt) rfl
  have hAns := hAnsX (fa := fa) hT (lawCA cl lt (envOfC "law" (defScope s_law) s.heap.objs.size f (.ref c)) Pt) rfl (cxOf (L2.CX P w) P w K mg base N_law "law" (defScope s_law) f (.ref c) A outer s H E) rfl rfl ft cdvT
  have hbodyL := lams (P := P) (w := w) (base := base) hT (f := f) (c := c) (Pt := Pt) (A := A) (outer := outer) (s := s) (H := H) (E := E)
  have q0 : PS (cxOf (L2.CX P w) P w K mg base N_law "law" (defScope s_law) f (.ref c) A outer s H E) ((defBody s_law).getD 0 (.Pass ⟨0, 0, 0, 0⟩)) (RS (mkG gd K (lawCA cl lt (envOfC "law" (defScope s_law) s.heap.objs.size f (.ref c)) Pt) fa) (fun cls d _ H' => E cls d H') m_law0) := (rs_set (i := 1) sc.nd (by rfl) (by first | exact .inl (by rfl) | exact .inr (by rfl)) (rf_box (rn_lst (rf_args_cons (rf_var (i := 0) (by rfl) (by first | exact .inl (by rfl) | exact .inr (.inl (by rfl)) | exact .inr (.inr (by rfl))) (by decide) (by decide)) (rf_args_cons (rf_c pe_int (fun _ _ => .int _)) rf_args_nil (by rfl)) (by rfl)))) (by rfl) (by first | exact .inl (by rfl) | exact .inr (by rfl)))
  have q1 : PS (cxOf (L2.CX P w) P w K mg base N_law "law" (defScope s_law) f (.ref c) A outer s H E) ((defBody s_law).getD 1 (.Pass ⟨0, 0, 0, 0⟩)) (RS (mkG gd K (lawCA cl lt (envOfC "law" (defScope s_law) s.heap.objs.size f (.ref c)) Pt) fa) (fun cls d _ H' => E cls d H') m_law1) := (rs_parN (by rfl) (gall_cons (fun h1 h2 => pgs_cons h1 h2) (pg_name (i := 2) sc.nd (by rfl) (by first | exact .inl (by rfl) | exact .inr (by rfl)) (by first | exact .inl (by rfl) | exact .inr (by rfl))) (gall_cons (fun h1 h2 => pgs_cons h1 h2) (pg_name (i := 3) sc.nd (by rfl) (by first | exact .inl (by rfl) | exact .inr (by rfl)) (by first | exact .inl (by rfl) | exact .inr (by rfl))) (gall_cons (fun h1 h2 => pgs_cons h1 h2) (pg_name (i := 4) sc.nd (by rfl) (by first | exact .inl (by rfl) | exact .inr (by rfl)) (by first | exact .inl (by rfl) | exact .inr (by rfl))) gall_nil))) (rels_cons (rel_v (rf_val (rn_mk (by rfl) (by exact k_Faults) (takes_of rfl rfl rfl rfl) (hr.mono (by decide)) (by rfl) (rf_args_cons (rf_cal (by rfl) (by exact c__law_take) (takes_of rfl rfl rfl rfl) (hr.mono (by decide)) (by rfl) (rf_args_cons (rf_var (i := 1) (by rfl) (by first | exact .inl (by rfl) | exact .inr (.inl (by rfl)) | exact .inr (.inr (by rfl))) (by decide) (by decide)) (rf_args_cons (rf_c pe_int (fun _ _ => .int _)) rf_args_nil (by rfl)) (by rfl)) (by decide) (by rfl) (by rfl)) (rf_args_cons (rf_bin op_addD ok_add (rf_c pe_int (fun _ _ => .int _)) (rf_cal (by rfl) (by exact c__law_take) (takes_of rfl rfl rfl rfl) (hr.mono (by decide)) (by rfl) (rf_args_cons (rf_var (i := 1) (by rfl) (by first | exact .inl (by rfl) | exact .inr (.inl (by rfl)) | exact .inr (.inr (by rfl))) (by decide) (by decide)) (rf_args_cons (rf_c pe_int (fun _ _ => .int _)) rf_args_nil (by rfl)) (by rfl)) (by decide) (by rfl) (by rfl))) rf_args_nil (by rfl)) (by rfl)) (by decide) (by rfl) (by rfl)))) (rels_cons (rel_f (rn_lst rf_args_nil)) (rels_cons (rel_v (rf_c pe_int (fun _ _ => .int _))) rels_nil (by rfl)) (by rfl)) (by rfl)) (by rfl) (by rfl) (by rfl) (by rfl) (by rfl) (by rfl))
  have q2 : PS (cxOf (L2.CX P w) P w K mg base N_law "law" (defScope s_law) f (.ref c) A outer s H E) ((defBody s_law).getD 2 (.Pass ⟨0, 0, 0, 0⟩)) (RS (mkG gd K (lawCA cl lt (envOfC "law" (defScope s_law) s.heap.objs.size f (.ref c)) Pt) fa) (fun cls d _ H' => E cls d H') m_law2) := (rs_for (passes_of rfl) (by rfl) (ri_r1 (by rfl) (by exact hT.b_range) (rf_args_cons (rf_cal (by rfl) (by exact c__law_take) (takes_of rfl rfl rfl rfl) (hr.mono (by decide)) (by rfl) (rf_args_cons (rf_var (i := 1) (by rfl) (by first | exact .inl (by rfl) | exact .inr (.inl (by rfl)) | exact .inr (.inr (by rfl))) (by decide) (by decide)) (rf_args_cons (rf_c pe_int (fun _ _ => .int _)) rf_args_nil (by rfl)) (by rfl)) (by decide) (by rfl) (by rfl)) rf_args_nil (by rfl)) (by rfl)) (rg_name (i := 5) sc.nd (by rfl) (by first | exact .inl (by rfl) | exact .inr (by rfl)) (by first | exact .inl (by rfl) | exact .inr (by rfl))) (rs_cons (rs_set (i := 4) sc.nd (by rfl) (by first | exact .inl (by rfl) | exact .inr (by rfl)) (rf_bin op_addD ok_add (rf_var (i := 4) (by rfl) (by first | exact .inl (by rfl) | exact .inr (.inl (by rfl)) | exact .inr (.inr (by rfl))) (by decide) (by decide)) (rf_cal (by rfl) (by exact c__law_take) (takes_of rfl rfl rfl rfl) (hr.mono (by decide)) (by rfl) (rf_args_cons (rf_var (i := 1) (by rfl) (by first | exact .inl (by rfl) | exact .inr (.inl (by rfl)) | exact .inr (.inr (by rfl))) (by decide) (by decide)) (rf_args_cons (rf_c pe_int (fun _ _ => .int _)) rf_args_nil (by rfl)) (by rfl)) (by decide) (by rfl) (by rfl))) (by rfl) (by first | exact .inl (by rfl) | exact .inr (by rfl))) (rs_one (rs_drop (rf_append (by rfl) (rf_var (i := 3) (by rfl) (by first | exact .inl (by rfl) | exact .inr (.inl (by rfl)) | exact .inr (.inr (by rfl))) (by decide) (by decide)) (rf_args_cons (rf_var (i := 4) (by rfl) (by first | exact .inl (by rfl) | exact .inr (.inl (by rfl)) | exact .inr (.inr (by rfl))) (by decide) (by decide)) rf_args_nil (by rfl)) (by rfl) (by rfl) (by rfl) (by rfl) (by rfl)) (by rfl)))) (fun _ => rfl))
  have q3 : PS (cxOf (L2.CX P w) P w K mg base N_law "law" (defScope s_law) f (.ref c) A outer s H E) ((defBody s_law).getD 3 (.Pass ⟨0, 0, 0, 0⟩)) (RS (mkG gd K (lawCA cl lt (envOfC "law" (defScope s_law) s.heap.objs.size f (.ref c)) Pt) fa) (fun cls d _ H' => E cls d H') m_law3) := (rs_if (rf_cmpT (op_neD hr.units) ok_nev (rf_cal (by rfl) (by exact c_are_within) (takes_of rfl rfl rfl rfl) (hr.mono (by decide)) (by rfl) (rf_args_cons (rf_var (i := 2) (by rfl) (by first | exact .inl (by rfl) | exact .inr (.inl (by rfl)) | exact .inr (.inr (by rfl))) (by decide) (by decide)) (rf_args_cons (rf_t1 call_tuple_of ok_tuple (by rfl) (by exact hT.b_tuple) (by rfl) (rf_var (i := 3) (by rfl) (by first | exact .inl (by rfl) | exact .inr (.inl (by rfl)) | exact .inr (.inr (by rfl))) (by decide) (by decide)) (by decide) (by decide) (by rfl) (by rfl)) rf_args_nil (by rfl)) (by rfl)) (by decide) (by rfl) (by rfl)) (rf_cmp op_le ok_le (rf_cal (by rfl) (by exact c__law_most) (takes_of rfl rfl rfl rfl) (hr.mono (by decide)) (by rfl) (rf_args_cons (rf_var (i := 3) (by rfl) (by first | exact .inl (by rfl) | exact .inr (.inl (by rfl)) | exact .inr (.inr (by rfl))) (by decide) (by decide)) (rf_args_cons (rf_fld (by rfl) hC (rf_var (i := 2) (by rfl) (by first | exact .inl (by rfl) | exact .inr (.inl (by rfl)) | exact .inr (.inr (by rfl))) (by decide) (by decide)) (by rfl)) rf_args_nil (by rfl)) (by rfl)) (by decide) (by rfl) (by rfl)) (rf_fld (by rfl) hC (rf_var (i := 2) (by rfl) (by first | exact .inl (by rfl) | exact .inr (.inl (by rfl)) | exact .inr (.inr (by rfl))) (by decide) (by decide)) (by rfl)) (by rfl)) (by rfl)) (rs_one (rs_ret (rf_c pe_bl (fun _ _ => .bl _)))) rs_nil)
  have q4 : PS (cxOf (L2.CX P w) P w K mg base N_law "law" (defScope s_law) f (.ref c) A outer s H E) ((defBody s_law).getD 4 (.Pass ⟨0, 0, 0, 0⟩)) (RS (mkG gd K (lawCA cl lt (envOfC "law" (defScope s_law) s.heap.objs.size f (.ref c)) Pt) fa) (fun cls d _ H' => E cls d H') m_law4) := (rs_parN (by rfl) (gall_cons (fun h1 h2 => pgs_cons h1 h2) (pg_name (i := 6) sc.nd (by rfl) (by first | exact .inl (by rfl) | exact .inr (by rfl)) (by first | exact .inl (by rfl) | exact .inr (by rfl))) (gall_cons (fun h1 h2 => pgs_cons h1 h2) (pg_name (i := 7) sc.nd (by rfl) (by first | exact .inl (by rfl) | exact .inr (by rfl)) (by first | exact .inl (by rfl) | exact .inr (by rfl))) gall_nil)) (rels_cons (rel_v (rf_cal (by rfl) (by exact c__law_take) (takes_of rfl rfl rfl rfl) (hr.mono (by decide)) (by rfl) (rf_args_cons (rf_var (i := 1) (by rfl) (by first | exact .inl (by rfl) | exact .inr (.inl (by rfl)) | exact .inr (.inr (by rfl))) (by decide) (by decide)) (rf_args_cons (rf_c pe_int (fun _ _ => .int _)) rf_args_nil (by rfl)) (by rfl)) (by decide) (by rfl) (by rfl))) (rels_cons (rel_v (rf_bin op_addD ok_add (rf_c pe_int (fun _ _ => .int _)) (rf_cal (by rfl) (by exact c__law_take) (takes_of rfl rfl rfl rfl) (hr.mono (by decide)) (by rfl) (rf_args_cons (rf_var (i := 1) (by rfl) (by first | exact .inl (by rfl) | exact .inr (.inl (by rfl)) | exact .inr (.inr (by rfl))) (by decide) (by decide)) (rf_args_cons (rf_c pe_int (fun _ _ => .int _)) rf_args_nil (by rfl)) (by rfl)) (by decide) (by rfl) (by rfl)))) rels_nil (by rfl)) (by rfl)) (by rfl) (by rfl) (by rfl) (by rfl) (by rfl) (by rfl))
  have q5 : PS (cxOf (L2.CX P w) P w K mg base N_law "law" (defScope s_law) f (.ref c) A outer s H E) ((defBody s_law).getD 5 (.Pass ⟨0, 0, 0, 0⟩)) (RS (mkG gd K (lawCA cl lt (envOfC "law" (defScope s_law) s.heap.objs.size f (.ref c)) Pt) fa) (fun cls d _ H' => E cls d H') m_law5) := (rs_setLc (i := 8) (own := [("place", 9)]) (by rfl) sc.nd (by rfl) (by rfl) (by rfl) (ri_r1 (by rfl) (by exact hT.b_range) (rf_args_cons (rf_b1 cr_lenD ok_len (by rfl) (by exact hT.b_len) (by rfl) (rf_var (i := 3) (by rfl) (by first | exact .inl (by rfl) | exact .inr (.inl (by rfl)) | exact .inr (.inr (by rfl))) (by decide) (by decide)) (by decide) (by decide) (by rfl) (by rfl)) rf_args_nil (by rfl)) (by rfl)) (blkOk_by (by rfl)) (by decide) (fun _ _ _ _ _ => (rg_name (i := 9) sc.nd (by rfl) (by first | exact .inl (by rfl) | exact .inr (by rfl)) (by first | exact .inl (by rfl) | exact .inr (by rfl)))) (fun _ _ _ _ _ => (rts_one (rf_cmpT op_gtD ok_gt (rf_b1 cr_lenD ok_len (by rfl) (by exact hT.b_len) (by rfl) (rf_val (rn_lc (own := [("one", 10)]) (by rfl) sc.nd (ri_seq (by rfl) (rf_slice (by rfl) (rf_var (i := 3) (by rfl) (by first | exact .inl (by rfl) | exact .inr (.inl (by rfl)) | exact .inr (.inr (by rfl))) (by decide) (by decide)) rf_part0 (rf_part (rf_bin op_addD ok_add (rf_var (i := 9) (by rfl) (by first | exact .inl (by rfl) | exact .inr (.inl (by rfl)) | exact .inr (.inr (by rfl))) (by decide) (by decide)) (rf_c pe_int (fun _ _ => .int _)))))) (blkOk_by (by rfl)) (by decide) (fun _ _ _ _ _ => (rg_name (i := 10) sc.nd (by rfl) (by first | exact .inl (by rfl) | exact .inr (by rfl)) (by first | exact .inl (by rfl) | exact .inr (by rfl)))) (fun _ _ _ _ _ => (rts_one (rf_cmpT op_gtD ok_gt (rf_var (i := 10) (by rfl) (by first | exact .inl (by rfl) | exact .inr (.inl (by rfl)) | exact .inr (.inr (by rfl))) (by decide) (by decide)) (rf_bin op_sub ok_sub (rf_sub (by rfl) (hu_of hr) (rf_var (i := 3) (by rfl) (by first | exact .inl (by rfl) | exact .inr (.inl (by rfl)) | exact .inr (.inr (by rfl))) (by decide) (by decide)) (rf_var (i := 9) (by rfl) (by first | exact .inl (by rfl) | exact .inr (.inl (by rfl)) | exact .inr (.inr (by rfl))) (by decide) (by decide)) (fun _ _ => rfl)) (rf_var (i := 7) (by rfl) (by first | exact .inl (by rfl) | exact .inr (.inl (by rfl)) | exact .inr (.inr (by rfl))) (by decide) (by decide))) (by rfl)))) (fun _ _ _ _ _ => (rf_var (i := 10) (by rfl) (by first | exact .inl (by rfl) | exact .inr (.inl (by rfl)) | exact .inr (.inr (by rfl))) (by decide) (by decide))) (fun _ => rfl))) (by decide) (by decide) (by rfl) (by rfl)) (rf_var (i := 6) (by rfl) (by first | exact .inl (by rfl) | exact .inr (.inl (by rfl)) | exact .inr (.inr (by rfl))) (by decide) (by decide)) (by rfl)))) (fun _ _ _ _ _ => (rf_var (i := 9) (by rfl) (by first | exact .inl (by rfl) | exact .inr (.inl (by rfl)) | exact .inr (.inr (by rfl))) (by decide) (by decide))) (fun _ => rfl))
  have q6 : PS (cxOf (L2.CX P w) P w K mg base N_law "law" (defScope s_law) f (.ref c) A outer s H E) ((defBody s_law).getD 6 (.Pass ⟨0, 0, 0, 0⟩)) (RS (mkG gd K (lawCA cl lt (envOfC "law" (defScope s_law) s.heap.objs.size f (.ref c)) Pt) fa) (fun cls d _ H' => E cls d H') m_law6) := (rs_if (PW.pt (rf_orT (rf_cmpT (op_neD hr.units) ok_nev (rf_cal (by rfl) (by exact c_first_beyond) (takes_of rfl rfl rfl rfl) (hr.mono (by decide)) (by rfl) (rf_args_cons (rf_var (i := 6) (by rfl) (by first | exact .inl (by rfl) | exact .inr (.inl (by rfl)) | exact .inr (.inr (by rfl))) (by decide) (by decide)) (rf_args_cons (rf_var (i := 7) (by rfl) (by first | exact .inl (by rfl) | exact .inr (.inl (by rfl)) | exact .inr (.inr (by rfl))) (by decide) (by decide)) (rf_args_cons (rf_var (i := 3) (by rfl) (by first | exact .inl (by rfl) | exact .inr (.inl (by rfl)) | exact .inr (.inr (by rfl))) (by decide) (by decide)) rf_args_nil (by rfl)) (by rfl)) (by rfl)) (by decide) (by rfl) (by rfl)) (rf_ifE (rf_cmpT (op_neD hr.units) ok_nev (rf_var (i := 8) (by rfl) (by first | exact .inl (by rfl) | exact .inr (.inl (by rfl)) | exact .inr (.inr (by rfl))) (by decide) (by decide)) (rf_lst rf_args_nil) (by rfl)) (rf_sub (by rfl) (hu_of hr) (rf_var (i := 8) (by rfl) (by first | exact .inl (by rfl) | exact .inr (.inl (by rfl)) | exact .inr (.inr (by rfl))) (by decide) (by decide)) (rf_c pe_int (fun _ _ => .int _)) (fun _ _ => rfl)) (rf_c pe_non (fun _ _ => .non))) (by rfl)) (rf_orT1 (rf_cmpT (op_neD hr.units) ok_nev (rf_cmp (op_eqD hr.units) ok_eqv (rf_var (i := 8) (by rfl) (by first | exact .inl (by rfl) | exact .inr (.inl (by rfl)) | exact .inr (.inr (by rfl))) (by decide) (by decide)) (rf_lst rf_args_nil) (by rfl)) (rf_cmp op_le ok_le (rf_cal (by rfl) (by exact c__law_most) (takes_of rfl rfl rfl rfl) (hr.mono (by decide)) (by rfl) (rf_args_cons (rf_var (i := 3) (by rfl) (by first | exact .inl (by rfl) | exact .inr (.inl (by rfl)) | exact .inr (.inr (by rfl))) (by decide) (by decide)) (rf_args_cons (rf_var (i := 7) (by rfl) (by first | exact .inl (by rfl) | exact .inr (.inl (by rfl)) | exact .inr (.inr (by rfl))) (by decide) (by decide)) rf_args_nil (by rfl)) (by rfl)) (by decide) (by rfl) (by rfl)) (rf_var (i := 6) (by rfl) (by first | exact .inl (by rfl) | exact .inr (.inl (by rfl)) | exact .inr (.inr (by rfl))) (by decide) (by decide)) (by rfl)) (by rfl))))) (rs_one (rs_ret (rf_c pe_bl (fun _ _ => .bl _)))) rs_nil)
  have q7 : PS (cxOf (L2.CX P w) P w K mg base N_law "law" (defScope s_law) f (.ref c) A outer s H E) ((defBody s_law).getD 7 (.Pass ⟨0, 0, 0, 0⟩)) (RS (mkG gd K (lawCA cl lt (envOfC "law" (defScope s_law) s.heap.objs.size f (.ref c)) Pt) fa) (fun cls d _ H' => E cls d H') m_law7) := (rs_setLc (i := 11) (own := [("row", 12)]) (by rfl) sc.nd (by rfl) (by rfl) (by rfl) (ri_seq (by rfl) (rf_cal (by rfl) (by exact c__law_rows) (takes_of rfl rfl rfl rfl) (hr.mono (by decide)) (by rfl) (rf_args_cons (rf_c pe_int (fun _ _ => .int _)) (rf_args_cons (rf_c pe_int (fun _ _ => .int _)) rf_args_nil (by rfl)) (by rfl)) (by decide) (by rfl) (by rfl))) (blkOk_by (by rfl)) (by decide) (fun _ _ _ _ _ => (rg_name (i := 12) sc.nd (by rfl) (by first | exact .inl (by rfl) | exact .inr (by rfl)) (by first | exact .inl (by rfl) | exact .inr (by rfl)))) (fun _ _ _ _ _ => (rts_one (rf_cmpT op_le ok_le (rf_cal (by rfl) (by exact c__law_most) takes_none5 (hr.mono (by decide)) (by rfl) (rf_args_cons (rf_var (i := 12) (by rfl) (by first | exact .inl (by rfl) | exact .inr (.inl (by rfl)) | exact .inr (.inr (by rfl))) (by decide) (by decide)) (rf_args_cons (rf_fld (by rfl) hC (rf_var (i := 2) (by rfl) (by first | exact .inl (by rfl) | exact .inr (.inl (by rfl)) | exact .inr (.inr (by rfl))) (by decide) (by decide)) (by rfl)) rf_args_nil (by rfl)) (by rfl)) (by decide) (by rfl) (by rfl)) (rf_fld (by rfl) hC (rf_var (i := 2) (by rfl) (by first | exact .inl (by rfl) | exact .inr (.inl (by rfl)) | exact .inr (.inr (by rfl))) (by decide) (by decide)) (by rfl)) (by rfl)))) (fun _ _ _ _ _ => (rf_var (i := 12) (by rfl) (by first | exact .inl (by rfl) | exact .inr (.inl (by rfl)) | exact .inr (.inr (by rfl))) (by decide) (by decide))) (fun _ => rfl))
  have q8 : PS (cxOf (L2.CX P w) P w K mg base N_law "law" (defScope s_law) f (.ref c) A outer s H E) ((defBody s_law).getD 8 (.Pass ⟨0, 0, 0, 0⟩)) (RS (mkG gd K (lawCA cl lt (envOfC "law" (defScope s_law) s.heap.objs.size f (.ref c)) Pt) fa) (fun cls d _ H' => E cls d H') m_law8) := (rs_for (passes_of rfl) (by rfl) (ri_r1 (by rfl) (by exact hT.b_range) (rf_args_cons (rf_c pe_int (fun _ _ => .int _)) rf_args_nil (by rfl)) (by rfl)) (rg_name (i := 13) sc.nd (by rfl) (by first | exact .inl (by rfl) | exact .inr (by rfl)) (by first | exact .inl (by rfl) | exact .inr (by rfl))) (rs_cons (rs_setLc (i := 14) (own := [("row", 12)]) (by rfl) sc.nd (by rfl) (by rfl) (by rfl) (ri_seq (by rfl) (rf_var (i := 11) (by rfl) (by first | exact .inl (by rfl) | exact .inr (.inl (by rfl)) | exact .inr (.inr (by rfl))) (by decide) (by decide))) (blkOk_by (by rfl)) (by decide) (fun _ _ _ _ _ => (rg_name (i := 12) sc.nd (by rfl) (by first | exact .inl (by rfl) | exact .inr (by rfl)) (by first | exact .inl (by rfl) | exact .inr (by rfl)))) (fun _ _ _ _ _ => (rts_one (rf_cmpT (op_eqD hr.units) ok_eqv (rf_b1 cr_lenD ok_len (by rfl) (by exact hT.b_len) (by rfl) (rf_var (i := 12) (by rfl) (by first | exact .inl (by rfl) | exact .inr (.inl (by rfl)) | exact .inr (.inr (by rfl))) (by decide) (by decide)) (by decide) (by decide) (by rfl) (by rfl)) (rf_var (i := 13) (by rfl) (by first | exact .inl (by rfl) | exact .inr (.inl (by rfl)) | exact .inr (.inr (by rfl))) (by decide) (by decide)) (by rfl)))) (fun _ _ _ _ _ => (rf_var (i := 12) (by rfl) (by first | exact .inl (by rfl) | exact .inr (.inl (by rfl)) | exact .inr (.inr (by rfl))) (by decide) (by decide))) (fun _ => rfl)) (rs_cons (rs_set (i := 15) sc.nd (by rfl) (by first | exact .inl (by rfl) | exact .inr (by rfl)) (rf_cal (by rfl) (by exact c_soonest) (takes_of rfl rfl rfl rfl) (hr.mono (by decide)) (by rfl) (rf_args_cons (rf_var (i := 2) (by rfl) (by first | exact .inl (by rfl) | exact .inr (.inl (by rfl)) | exact .inr (.inr (by rfl))) (by decide) (by decide)) (rf_args_cons (rf_var (i := 13) (by rfl) (by first | exact .inl (by rfl) | exact .inr (.inl (by rfl)) | exact .inr (.inr (by rfl))) (by decide) (by decide)) rf_args_nil (by rfl)) (by rfl)) (by decide) (by rfl) (by rfl)) (by rfl) (by first | exact .inl (by rfl) | exact .inr (by rfl))) (rs_cons (rs_if (PW.pt (rf_orT (PW.pt (rf_andT (rf_cmpT (op_eqD hr.units) ok_eqv (rf_fld (by rfl) hC (rf_var (i := 2) (by rfl) (by first | exact .inl (by rfl) | exact .inr (.inl (by rfl)) | exact .inr (.inr (by rfl))) (by decide) (by decide)) (by rfl)) (rf_c pe_int (fun _ _ => .int _)) (by rfl)) (rf_andT1 (rf_cmpT (op_neD hr.units) ok_nev (rf_var (i := 15) (by rfl) (by first | exact .inl (by rfl) | exact .inr (.inl (by rfl)) | exact .inr (.inr (by rfl))) (by decide) (by decide)) (rf_ifE (rf_cmpT (op_eqD hr.units) ok_eqv (rf_var (i := 13) (by rfl) (by first | exact .inl (by rfl) | exact .inr (.inl (by rfl)) | exact .inr (.inr (by rfl))) (by decide) (by decide)) (rf_c pe_int (fun _ _ => .int _)) (by rfl)) (rf_lst rf_args_nil) (rf_c pe_non (fun _ _ => .non))) (by rfl))))) (rf_orT1 (PW.pt (rf_andT (rf_cmpT op_gtD ok_gt (rf_fld (by rfl) hC (rf_var (i := 2) (by rfl) (by first | exact .inl (by rfl) | exact .inr (.inl (by rfl)) | exact .inr (.inr (by rfl))) (by decide) (by decide)) (by rfl)) (rf_c pe_int (fun _ _ => .int _)) (by rfl)) (rf_andT1 (PW.pt (rf_orT (rf_cmpT (op_neD hr.units) ok_nev (rf_b1 cr_lenD ok_len (by rfl) (by exact hT.b_len) (by rfl) (rf_var (i := 15) (by rfl) (by first | exact .inl (by rfl) | exact .inr (.inl (by rfl)) | exact .inr (.inr (by rfl))) (by decide) (by decide)) (by decide) (by decide) (by rfl) (by rfl)) (rf_var (i := 13) (by rfl) (by first | exact .inl (by rfl) | exact .inr (.inl (by rfl)) | exact .inr (.inr (by rfl))) (by decide) (by decide)) (by rfl)) (rf_orT (rf_notT (rf_truth (rf_cal (by rfl) (by exact c_are_within) (takes_of rfl rfl rfl rfl) (hr.mono (by decide)) (by rfl) (rf_args_cons (rf_var (i := 2) (by rfl) (by first | exact .inl (by rfl) | exact .inr (.inl (by rfl)) | exact .inr (.inr (by rfl))) (by decide) (by decide)) (rf_args_cons (rf_var (i := 15) (by rfl) (by first | exact .inl (by rfl) | exact .inr (.inl (by rfl)) | exact .inr (.inr (by rfl))) (by decide) (by decide)) rf_args_nil (by rfl)) (by rfl)) (by decide) (by rfl) (by rfl)) (fun _ => rfl) (by rfl))) (rf_orT1 (rf_cmpT (op_neD hr.units) ok_nev (rf_var (i := 15) (by rfl) (by first | exact .inl (by rfl) | exact .inr (.inl (by rfl)) | exact .inr (.inr (by rfl))) (by decide) (by decide)) (rf_val (rn_b1 cr_sorted ok_sorted (by rfl) (by exact hT.b_sorted) (by rfl) (rf_var (i := 15) (by rfl) (by first | exact .inl (by rfl) | exact .inr (.inl (by rfl)) | exact .inr (.inr (by rfl))) (by decide) (by decide)) (by decide) (by decide) (by rfl) (by rfl))) (by rfl)))))))))))) (rs_one (rs_ret (rf_c pe_bl (fun _ _ => .bl _)))) rs_nil) (rs_cons (rs_if (PW.pt (rf_andT (rf_cmpT op_gtD ok_gt (rf_fld (by rfl) hC (rf_var (i := 2) (by rfl) (by first | exact .inl (by rfl) | exact .inr (.inl (by rfl)) | exact .inr (.inr (by rfl))) (by decide) (by decide)) (by rfl)) (rf_c pe_int (fun _ _ => .int _)) (by rfl)) (rf_andT (rf_cmpT (op_neD hr.units) ok_nev (rf_var (i := 14) (by rfl) (by first | exact .inl (by rfl) | exact .inr (.inl (by rfl)) | exact .inr (.inr (by rfl))) (by decide) (by decide)) (rf_lst rf_args_nil) (by rfl)) (rf_andT1 (PW.pt (rf_orT (rf_truth (rf_b1 (cr_any (by rfl)) ok_any (by rfl) (by exact hT.b_any) (by rfl) (rf_val (rn_lc (own := [("row", 12)]) (by rfl) sc.nd (ri_seq (by rfl) (rf_var (i := 14) (by rfl) (by first | exact .inl (by rfl) | exact .inr (.inl (by rfl)) | exact .inr (.inr (by rfl))) (by decide) (by decide))) (blkOk_by (by rfl)) (by decide) (fun _ _ _ _ _ => (rg_name (i := 12) sc.nd (by rfl) (by first | exact .inl (by rfl) | exact .inr (by rfl)) (by first | exact .inl (by rfl) | exact .inr (by rfl)))) (fun _ _ _ _ _ => rts_nil) (fun _ _ _ _ _ => (rf_b1 (cr_any (by rfl)) ok_any (by rfl) (by exact hT.b_any) (by rfl) (rf_val (rn_lc (own := [("one", 10), ("late", 16)]) (by rfl) sc.nd (ri_zip (by rfl) (by rfl) (by exact hT.b_zip) (rf_var (i := 12) (by rfl) (by first | exact .inl (by rfl) | exact .inr (.inl (by rfl)) | exact .inr (.inr (by rfl))) (by decide) (by decide)) (rf_var (i := 15) (by rfl) (by first | exact .inl (by rfl) | exact .inr (.inl (by rfl)) | exact .inr (.inr (by rfl))) (by decide) (by decide)) (by rfl) (by rfl) (by rfl)) (blkOk_by (by rfl)) (by decide) (fun _ _ _ _ _ => (rg_tup (by rfl) (by rfl) (rgs_cons (fun h1 h2 => pgs_cons h1 h2) (rg_name (i := 10) sc.nd (by rfl) (by first | exact .inl (by rfl) | exact .inr (by rfl)) (by first | exact .inl (by rfl) | exact .inr (by rfl))) (rgs_cons (fun h1 h2 => pgs_cons h1 h2) (rg_name (i := 16) sc.nd (by rfl) (by first | exact .inl (by rfl) | exact .inr (by rfl)) (by first | exact .inl (by rfl) | exact .inr (by rfl))) rgs_nil)) (by rfl) (by rfl))) (fun _ _ _ _ _ => rts_nil) (fun _ _ _ _ _ => (rf_cmp op_ltD ok_lt (rf_var (i := 10) (by rfl) (by first | exact .inl (by rfl) | exact .inr (.inl (by rfl)) | exact .inr (.inr (by rfl))) (by decide) (by decide)) (rf_var (i := 16) (by rfl) (by first | exact .inl (by rfl) | exact .inr (.inl (by rfl)) | exact .inr (.inr (by rfl))) (by decide) (by decide)) (by rfl))) (fun _ => rfl))) (by decide) (by decide) (by rfl) (by rfl))) (fun _ => rfl))) (by decide) (by decide) (by rfl) (by rfl)) (fun _ => rfl) (by rfl)) (rf_orT1 (PW.pt (rf_andT (rf_cmpT (op_neD hr.units) ok_nev (rf_b1 (cr_min (by rfl)) ok_min (by rfl) (by exact hT.b_min) (by rfl) (rf_val (rn_lc (own := [("row", 12)]) (by rfl) sc.nd (ri_seq (by rfl) (rf_var (i := 14) (by rfl) (by first | exact .inl (by rfl) | exact .inr (.inl (by rfl)) | exact .inr (.inr (by rfl))) (by decide) (by decide))) (blkOk_by (by rfl)) (by decide) (fun _ _ _ _ _ => (rg_name (i := 12) sc.nd (by rfl) (by first | exact .inl (by rfl) | exact .inr (by rfl)) (by first | exact .inl (by rfl) | exact .inr (by rfl)))) (fun _ _ _ _ _ => rts_nil) (fun _ _ _ _ _ => (rf_ifE (rf_cmpT (op_neD hr.units) ok_nev (rf_var (i := 12) (by rfl) (by first | exact .inl (by rfl) | exact .inr (.inl (by rfl)) | exact .inr (.inr (by rfl))) (by decide) (by decide)) (rf_tup rf_args_nil) (by rfl)) (rf_bin op_sub ok_sub (rf_sub (by rfl) (hu_of hr) (rf_var (i := 12) (by rfl) (by first | exact .inl (by rfl) | exact .inr (.inl (by rfl)) | exact .inr (.inr (by rfl))) (by decide) (by decide)) (rf_neg (rf_c pe_int (fun _ _ => .int _))) (fun _ _ => rfl)) (rf_sub (by rfl) (hu_of hr) (rf_var (i := 12) (by rfl) (by first | exact .inl (by rfl) | exact .inr (.inl (by rfl)) | exact .inr (.inr (by rfl))) (by decide) (by decide)) (rf_c pe_int (fun _ _ => .int _)) (fun _ _ => rfl))) (rf_c pe_int (fun _ _ => .int _)))) (fun _ => rfl))) (by decide) (by decide) (by rfl) (by rfl)) (rf_cal (by rfl) (by exact c_span_of) (takes_of rfl rfl rfl rfl) (hr.mono (by decide)) (by rfl) (rf_args_cons (rf_var (i := 2) (by rfl) (by first | exact .inl (by rfl) | exact .inr (.inl (by rfl)) | exact .inr (.inr (by rfl))) (by decide) (by decide)) (rf_args_cons (rf_var (i := 13) (by rfl) (by first | exact .inl (by rfl) | exact .inr (.inl (by rfl)) | exact .inr (.inr (by rfl))) (by decide) (by decide)) rf_args_nil (by rfl)) (by rfl)) (by decide) (by rfl) (by rfl)) (by rfl)) (rf_andT (rf_cmpT (op_neD hr.units) ok_nev (rf_var (i := 15) (by rfl) (by first | exact .inl (by rfl) | exact .inr (.inl (by rfl)) | exact .inr (.inr (by rfl))) (by decide) (by decide)) (rf_lst rf_args_nil) (by rfl)) (rf_andT1 (rf_cmpT op_le ok_le (rf_sub (by rfl) (hu_of hr) (rf_var (i := 15) (by rfl) (by first | exact .inl (by rfl) | exact .inr (.inl (by rfl)) | exact .inr (.inr (by rfl))) (by decide) (by decide)) (rf_neg (rf_c pe_int (fun _ _ => .int _))) (fun _ _ => rfl)) (rf_c pe_int (fun _ _ => .int _)) (by rfl))))))))))))) (rs_one (rs_ret (rf_c pe_bl (fun _ _ => .bl _)))) rs_nil) (rs_one (rs_if (rf_cmpT (op_neD hr.units) ok_nev (rf_cal (by rfl) (by exact c_span_of) (takes_of rfl rfl rfl rfl) (hr.mono (by decide)) (by rfl) (rf_args_cons (rf_var (i := 2) (by rfl) (by first | exact .inl (by rfl) | exact .inr (.inl (by rfl)) | exact .inr (.inr (by rfl))) (by decide) (by decide)) (rf_args_cons (rf_var (i := 13) (by rfl) (by first | exact .inl (by rfl) | exact .inr (.inl (by rfl)) | exact .inr (.inr (by rfl))) (by decide) (by decide)) rf_args_nil (by rfl)) (by rfl)) (by decide) (by rfl) (by rfl)) (rf_ifE (rf_cmpT op_isD ok_isn (rf_var (i := 15) (by rfl) (by first | exact .inl (by rfl) | exact .inr (.inl (by rfl)) | exact .inr (.inr (by rfl))) (by decide) (by decide)) (rf_c pe_non (fun _ _ => .non)) (by rfl)) (rf_c pe_non (fun _ _ => .non)) (rf_ifE (rf_cmpT (op_neD hr.units) ok_nev (rf_var (i := 15) (by rfl) (by first | exact .inl (by rfl) | exact .inr (.inl (by rfl)) | exact .inr (.inr (by rfl))) (by decide) (by decide)) (rf_lst rf_args_nil) (by rfl)) (rf_bin op_sub ok_sub (rf_sub (by rfl) (hu_of hr) (rf_var (i := 15) (by rfl) (by first | exact .inl (by rfl) | exact .inr (.inl (by rfl)) | exact .inr (.inr (by rfl))) (by decide) (by decide)) (rf_neg (rf_c pe_int (fun _ _ => .int _))) (fun _ _ => rfl)) (rf_sub (by rfl) (hu_of hr) (rf_var (i := 15) (by rfl) (by first | exact .inl (by rfl) | exact .inr (.inl (by rfl)) | exact .inr (.inr (by rfl))) (by decide) (by decide)) (rf_c pe_int (fun _ _ => .int _)) (fun _ _ => rfl))) (rf_c pe_int (fun _ _ => .int _)))) (by rfl)) (rs_one (rs_ret (rf_c pe_bl (fun _ _ => .bl _)))) rs_nil)))))) (fun _ => rfl))
  have q9 : PS (cxOf (L2.CX P w) P w K mg base N_law "law" (defScope s_law) f (.ref c) A outer s H E) ((defBody s_law).getD 9 (.Pass ⟨0, 0, 0, 0⟩)) (RS (mkG gd K (lawCA cl lt (envOfC "law" (defScope s_law) s.heap.objs.size f (.ref c)) Pt) fa) (fun cls d _ H' => E cls d H') m_law9) := (rs_set (i := 17) sc.nd (by rfl) (by first | exact .inl (by rfl) | exact .inr (by rfl)) (rf_b1 (cr_max (by rfl)) ok_max (by rfl) (by exact hT.b_max) (by rfl) (rf_val (rn_lc (own := [("row", 12)]) (by rfl) sc.nd (ri_seq (by rfl) (rf_var (i := 11) (by rfl) (by first | exact .inl (by rfl) | exact .inr (.inl (by rfl)) | exact .inr (.inr (by rfl))) (by decide) (by decide))) (blkOk_by (by rfl)) (by decide) (fun _ _ _ _ _ => (rg_name (i := 12) sc.nd (by rfl) (by first | exact .inl (by rfl) | exact .inr (by rfl)) (by first | exact .inl (by rfl) | exact .inr (by rfl)))) (fun _ _ _ _ _ => rts_nil) (fun _ _ _ _ _ => (rf_cal (by rfl) (by exact c__law_most) takes_none5 (hr.mono (by decide)) (by rfl) (rf_args_cons (rf_var (i := 12) (by rfl) (by first | exact .inl (by rfl) | exact .inr (.inl (by rfl)) | exact .inr (.inr (by rfl))) (by decide) (by decide)) (rf_args_cons (rf_var (i := 7) (by rfl) (by first | exact .inl (by rfl) | exact .inr (.inl (by rfl)) | exact .inr (.inr (by rfl))) (by decide) (by decide)) rf_args_nil (by rfl)) (by rfl)) (by decide) (by rfl) (by rfl))) (fun _ => rfl))) (by decide) (by decide) (by rfl) (by rfl)) (by rfl) (by first | exact .inl (by rfl) | exact .inr (by rfl)))
  have q10 : PS (cxOf (L2.CX P w) P w K mg base N_law "law" (defScope s_law) f (.ref c) A outer s H E) ((defBody s_law).getD 10 (.Pass ⟨0, 0, 0, 0⟩)) (RS (mkG gd K (lawCA cl lt (envOfC "law" (defScope s_law) s.heap.objs.size f (.ref c)) Pt) fa) (fun cls d _ H' => E cls d H') m_law10) := (rs_if (PW.pt (rf_orT (rf_cmpT (op_neD hr.units) ok_nev (rf_cal (by rfl) (by exact c_most_within) (takes_of rfl rfl rfl rfl) (hr.mono (by decide)) (by rfl) (rf_args_cons (rf_var (i := 7) (by rfl) (by first | exact .inl (by rfl) | exact .inr (.inl (by rfl)) | exact .inr (.inr (by rfl))) (by decide) (by decide)) (rf_args_cons (rf_var (i := 2) (by rfl) (by first | exact .inl (by rfl) | exact .inr (.inl (by rfl)) | exact .inr (.inr (by rfl))) (by decide) (by decide)) rf_args_nil (by rfl)) (by rfl)) (by decide) (by rfl) (by rfl)) (rf_bin op_mulD ok_mul (rf_bin op_fdiv ok_fdiv (rf_bin op_sub ok_sub (rf_bin op_addD ok_add (rf_var (i := 7) (by rfl) (by first | exact .inl (by rfl) | exact .inr (.inl (by rfl)) | exact .inr (.inr (by rfl))) (by decide) (by decide)) (rf_fld (by rfl) hC (rf_var (i := 2) (by rfl) (by first | exact .inl (by rfl) | exact .inr (.inl (by rfl)) | exact .inr (.inr (by rfl))) (by decide) (by decide)) (by rfl))) (rf_c pe_int (fun _ _ => .int _))) (rf_fld (by rfl) hC (rf_var (i := 2) (by rfl) (by first | exact .inl (by rfl) | exact .inr (.inl (by rfl)) | exact .inr (.inr (by rfl))) (by decide) (by decide)) (by rfl))) (rf_fld (by rfl) hC (rf_var (i := 2) (by rfl) (by first | exact .inl (by rfl) | exact .inr (.inl (by rfl)) | exact .inr (.inr (by rfl))) (by decide) (by decide)) (by rfl))) (by rfl)) (rf_orT (rf_cmpT (op_neD hr.units) ok_nev (rf_cal (by rfl) (by exact c_least_most) (takes_of rfl rfl rfl rfl) (hr.mono (by decide)) (by rfl) (rf_args_cons (rf_var (i := 7) (by rfl) (by first | exact .inl (by rfl) | exact .inr (.inl (by rfl)) | exact .inr (.inr (by rfl))) (by decide) (by decide)) (rf_args_cons (rf_var (i := 2) (by rfl) (by first | exact .inl (by rfl) | exact .inr (.inl (by rfl)) | exact .inr (.inr (by rfl))) (by decide) (by decide)) rf_args_nil (by rfl)) (by rfl)) (by decide) (by rfl) (by rfl)) (rf_cal (by rfl) (by exact c_most_within) (takes_of rfl rfl rfl rfl) (hr.mono (by decide)) (by rfl) (rf_args_cons (rf_var (i := 7) (by rfl) (by first | exact .inl (by rfl) | exact .inr (.inl (by rfl)) | exact .inr (.inr (by rfl))) (by decide) (by decide)) (rf_args_cons (rf_var (i := 2) (by rfl) (by first | exact .inl (by rfl) | exact .inr (.inl (by rfl)) | exact .inr (.inr (by rfl))) (by decide) (by decide)) rf_args_nil (by rfl)) (by rfl)) (by decide) (by rfl) (by rfl)) (by rfl)) (rf_orT (rf_cmpT op_gtD ok_gt (rf_var (i := 17) (by rfl) (by first | exact .inl (by rfl) | exact .inr (.inl (by rfl)) | exact .inr (.inr (by rfl))) (by decide) (by decide)) (rf_cal (by rfl) (by exact c_most_within) (takes_of rfl rfl rfl rfl) (hr.mono (by decide)) (by rfl) (rf_args_cons (rf_var (i := 7) (by rfl) (by first | exact .inl (by rfl) | exact .inr (.inl (by rfl)) | exact .inr (.inr (by rfl))) (by decide) (by decide)) (rf_args_cons (rf_var (i := 2) (by rfl) (by first | exact .inl (by rfl) | exact .inr (.inl (by rfl)) | exact .inr (.inr (by rfl))) (by decide) (by decide)) rf_args_nil (by rfl)) (by rfl)) (by decide) (by rfl) (by rfl)) (by rfl)) (rf_orT1 (PW.pt (rf_andT (rf_cmpT op_le ok_le (rf_cal (by rfl) (by exact c_most_within) (takes_of rfl rfl rfl rfl) (hr.mono (by decide)) (by rfl) (rf_args_cons (rf_var (i := 7) (by rfl) (by first | exact .inl (by rfl) | exact .inr (.inl (by rfl)) | exact .inr (.inr (by rfl))) (by decide) (by decide)) (rf_args_cons (rf_var (i := 2) (by rfl) (by first | exact .inl (by rfl) | exact .inr (.inl (by rfl)) | exact .inr (.inr (by rfl))) (by decide) (by decide)) rf_args_nil (by rfl)) (by rfl)) (by decide) (by rfl) (by rfl)) (rf_c pe_int (fun _ _ => .int _)) (by rfl)) (rf_andT (rf_cmpT op_le ok_le (rf_var (i := 7) (by rfl) (by first | exact .inl (by rfl) | exact .inr (.inl (by rfl)) | exact .inr (.inr (by rfl))) (by decide) (by decide)) (rf_c pe_int (fun _ _ => .int _)) (by rfl)) (rf_andT1 (rf_cmpT (op_neD hr.units) ok_nev (rf_var (i := 17) (by rfl) (by first | exact .inl (by rfl) | exact .inr (.inl (by rfl)) | exact .inr (.inr (by rfl))) (by decide) (by decide)) (rf_cal (by rfl) (by exact c_most_within) (takes_of rfl rfl rfl rfl) (hr.mono (by decide)) (by rfl) (rf_args_cons (rf_var (i := 7) (by rfl) (by first | exact .inl (by rfl) | exact .inr (.inl (by rfl)) | exact .inr (.inr (by rfl))) (by decide) (by decide)) (rf_args_cons (rf_var (i := 2) (by rfl) (by first | exact .inl (by rfl) | exact .inr (.inl (by rfl)) | exact .inr (.inr (by rfl))) (by decide) (by decide)) rf_args_nil (by rfl)) (by rfl)) (by decide) (by rfl) (by rfl)) (by rfl))))))))))) (rs_one (rs_ret (rf_c pe_bl (fun _ _ => .bl _)))) rs_nil)
  have q11 : PS (cxOf (L2.CX P w) P w K mg base N_law "law" (defScope s_law) f (.ref c) A outer s H E) ((defBody s_law).getD 11 (.Pass ⟨0, 0, 0, 0⟩)) (RS (mkG gd K (lawCA cl lt (envOfC "law" (defScope s_law) s.heap.objs.size f (.ref c)) Pt) fa) (fun cls d _ H' => E cls d H') m_law11) := (rs_set (i := 18) sc.nd (by rfl) (by first | exact .inl (by rfl) | exact .inr (by rfl)) (rf_cal (by rfl) (by exact c_judge_bound) (takes_of rfl rfl rfl rfl) (hr.mono (by decide)) (by rfl) (rf_args_cons (rf_var (i := 6) (by rfl) (by first | exact .inl (by rfl) | exact .inr (.inl (by rfl)) | exact .inr (.inr (by rfl))) (by decide) (by decide)) (rf_args_cons (rf_var (i := 7) (by rfl) (by first | exact .inl (by rfl) | exact .inr (.inl (by rfl)) | exact .inr (.inr (by rfl))) (by decide) (by decide)) (rf_args_cons (rf_var (i := 2) (by rfl) (by first | exact .inl (by rfl) | exact .inr (.inl (by rfl)) | exact .inr (.inr (by rfl))) (by decide) (by decide)) rf_args_nil (by rfl)) (by rfl)) (by rfl)) (by decide) (by rfl) (by rfl)) (by rfl) (by first | exact .inl (by rfl) | exact .inr (by rfl)))
  have q12 : PS (cxOf (L2.CX P w) P w K mg base N_law "law" (defScope s_law) f (.ref c) A outer s H E) ((defBody s_law).getD 12 (.Pass ⟨0, 0, 0, 0⟩)) (RS (mkG gd K (lawCA cl lt (envOfC "law" (defScope s_law) s.heap.objs.size f (.ref c)) Pt) fa) (fun cls d _ H' => E cls d H') m_law12) := (rs_if (PW.pt (rf_orT (rf_cmpT (op_neD hr.units) ok_nev (rf_boolI (by rfl) hC hBool (hr.mono (by decide)) (by rfl) (by exact hT.b_bool) (rf_var (i := 18) (by rfl) (by first | exact .inl (by rfl) | exact .inr (.inl (by rfl)) | exact .inr (.inr (by rfl))) (by decide) (by decide)) (by rfl) (by rfl)) (rf_cmp op_le ok_le (rf_cal (by rfl) (by exact c_most_within) (takes_of rfl rfl rfl rfl) (hr.mono (by decide)) (by rfl) (rf_args_cons (rf_var (i := 7) (by rfl) (by first | exact .inl (by rfl) | exact .inr (.inl (by rfl)) | exact .inr (.inr (by rfl))) (by decide) (by decide)) (rf_args_cons (rf_var (i := 2) (by rfl) (by first | exact .inl (by rfl) | exact .inr (.inl (by rfl)) | exact .inr (.inr (by rfl))) (by decide) (by decide)) rf_args_nil (by rfl)) (by rfl)) (by decide) (by rfl) (by rfl)) (rf_var (i := 6) (by rfl) (by first | exact .inl (by rfl) | exact .inr (.inl (by rfl)) | exact .inr (.inr (by rfl))) (by decide) (by decide)) (by rfl)) (by rfl)) (rf_orT (PW.pt (rf_andT (rf_truthI (by rfl) hC hBool (hr.mono (by decide)) (rf_var (i := 18) (by rfl) (by first | exact .inl (by rfl) | exact .inr (.inl (by rfl)) | exact .inr (.inr (by rfl))) (by decide) (by decide)) (fun _ => rfl)) (rf_andT1 (rf_neIT (by rfl) hC hEq (hr.mono (by decide)) (op_neD hr.units) ok_nev (rf_var (i := 18) (by rfl) (by first | exact .inl (by rfl) | exact .inr (.inl (by rfl)) | exact .inr (.inr (by rfl))) (by decide) (by decide)) (rf_val (rn_mk (by rfl) (by exact k_Bears) (takes_of rfl rfl rfl rfl) (hr.mono (by decide)) (by rfl) (rf_args_cons (rf_cal (by rfl) (by exact c_most_within) (takes_of rfl rfl rfl rfl) (hr.mono (by decide)) (by rfl) (rf_args_cons (rf_var (i := 7) (by rfl) (by first | exact .inl (by rfl) | exact .inr (.inl (by rfl)) | exact .inr (.inr (by rfl))) (by decide) (by decide)) (rf_args_cons (rf_var (i := 2) (by rfl) (by first | exact .inl (by rfl) | exact .inr (.inl (by rfl)) | exact .inr (.inr (by rfl))) (by decide) (by decide)) rf_args_nil (by rfl)) (by rfl)) (by decide) (by rfl) (by rfl)) rf_args_nil (by rfl)) (by decide) (by rfl) (by rfl))) (by rfl))))) (rf_orT (rf_notT (rf_truth (rf_meth (by rfl) hC h_shows (hr.mono (by decide)) (takes_of rfl rfl rfl rfl) (rf_var (i := 18) (by rfl) (by first | exact .inl (by rfl) | exact .inr (.inl (by rfl)) | exact .inr (.inr (by rfl))) (by decide) (by decide)) (rf_args_cons (rf_var (i := 6) (by rfl) (by first | exact .inl (by rfl) | exact .inr (.inl (by rfl)) | exact .inr (.inr (by rfl))) (by decide) (by decide)) (rf_args_cons (rf_var (i := 7) (by rfl) (by first | exact .inl (by rfl) | exact .inr (.inl (by rfl)) | exact .inr (.inr (by rfl))) (by decide) (by decide)) (rf_args_cons (rf_var (i := 2) (by rfl) (by first | exact .inl (by rfl) | exact .inr (.inl (by rfl)) | exact .inr (.inr (by rfl))) (by decide) (by decide)) rf_args_nil (by rfl)) (by rfl)) (by rfl)) (by rfl) (by rfl) (by rfl)) (fun _ => rfl) (by rfl))) (rf_orT1 (PW.pt (rf_andT (rf_notT (rf_truthI (by rfl) hC hBool (hr.mono (by decide)) (rf_var (i := 18) (by rfl) (by first | exact .inl (by rfl) | exact .inr (.inl (by rfl)) | exact .inr (.inr (by rfl))) (by decide) (by decide)) (fun _ => rfl))) (rf_andT1 (rf_cmpT (op_neD hr.units) ok_nev (rf_val (rn_t1 call_list_of ok_list (by rfl) (by exact hT.b_list) (by rfl) (rf_fld (by rfl) hC (rf_var (i := 18) (by rfl) (by first | exact .inl (by rfl) | exact .inr (.inl (by rfl)) | exact .inr (.inr (by rfl))) (by decide) (by decide)) (by rfl)) (by decide) (by decide) (by rfl) (by rfl))) (rf_cal (by rfl) (by exact c_soonest) (takes_of rfl rfl rfl rfl) (hr.mono (by decide)) (by rfl) (rf_args_cons (rf_var (i := 2) (by rfl) (by first | exact .inl (by rfl) | exact .inr (.inl (by rfl)) | exact .inr (.inr (by rfl))) (by decide) (by decide)) (rf_args_cons (rf_bin op_addD ok_add (rf_var (i := 6) (by rfl) (by first | exact .inl (by rfl) | exact .inr (.inl (by rfl)) | exact .inr (.inr (by rfl))) (by decide) (by decide)) (rf_c pe_int (fun _ _ => .int _))) rf_args_nil (by rfl)) (by rfl)) (by decide) (by rfl) (by rfl)) (by rfl)))))))))) (rs_one (rs_ret (rf_c pe_bl (fun _ _ => .bl _)))) rs_nil)
  have q13 : PS (cxOf (L2.CX P w) P w K mg base N_law "law" (defScope s_law) f (.ref c) A outer s H E) ((defBody s_law).getD 13 (.Pass ⟨0, 0, 0, 0⟩)) (RS (mkG gd K (lawCA cl lt (envOfC "law" (defScope s_law) s.heap.objs.size f (.ref c)) Pt) fa) (fun cls d _ H' => E cls d H') m_law13) := (rs_for (passes_of rfl) (by rfl) (ri_seq (by rfl) (rf_val (rn_step (k := 7) (by rfl) (by decide) (rf_var (i := 11) (by rfl) (by first | exact .inl (by rfl) | exact .inr (.inl (by rfl)) | exact .inr (.inr (by rfl))) (by decide) (by decide))))) (rg_name (i := 12) sc.nd (by rfl) (by first | exact .inl (by rfl) | exact .inr (by rfl)) (by first | exact .inl (by rfl) | exact .inr (by rfl))) (rs_cons (rs_set (i := 19) sc.nd (by rfl) (by first | exact .inl (by rfl) | exact .inr (by rfl)) (rf_andV (rf_cmp (op_neD hr.units) ok_nev (rf_var (i := 12) (by rfl) (by first | exact .inl (by rfl) | exact .inr (.inl (by rfl)) | exact .inr (.inr (by rfl))) (by decide) (by decide)) (rf_tup rf_args_nil) (by rfl)) (rf_andV1 (rf_cmp (op_eqD hr.units) ok_eqv (rf_val (rn_lc (own := [("place", 9)]) (by rfl) sc.nd (ri_r1 (by rfl) (by exact hT.b_range) (rf_args_cons (rf_b1 cr_lenD ok_len (by rfl) (by exact hT.b_len) (by rfl) (rf_var (i := 12) (by rfl) (by first | exact .inl (by rfl) | exact .inr (.inl (by rfl)) | exact .inr (.inr (by rfl))) (by decide) (by decide)) (by decide) (by decide) (by rfl) (by rfl)) rf_args_nil (by rfl)) (by rfl)) (blkOk_by (by rfl)) (by decide) (fun _ _ _ _ _ => (rg_name (i := 9) sc.nd (by rfl) (by first | exact .inl (by rfl) | exact .inr (by rfl)) (by first | exact .inl (by rfl) | exact .inr (by rfl)))) (fun _ _ _ _ _ => (rts_one (rf_cmpT op_gtD ok_gt (rf_b1 cr_lenD ok_len (by rfl) (by exact hT.b_len) (by rfl) (rf_val (rn_lc (own := [("one", 10)]) (by rfl) sc.nd (ri_seq (by rfl) (rf_slice (by rfl) (rf_var (i := 12) (by rfl) (by first | exact .inl (by rfl) | exact .inr (.inl (by rfl)) | exact .inr (.inr (by rfl))) (by decide) (by decide)) rf_part0 (rf_part (rf_bin op_addD ok_add (rf_var (i := 9) (by rfl) (by first | exact .inl (by rfl) | exact .inr (.inl (by rfl)) | exact .inr (.inr (by rfl))) (by decide) (by decide)) (rf_c pe_int (fun _ _ => .int _)))))) (blkOk_by (by rfl)) (by decide) (fun _ _ _ _ _ => (rg_name (i := 10) sc.nd (by rfl) (by first | exact .inl (by rfl) | exact .inr (by rfl)) (by first | exact .inl (by rfl) | exact .inr (by rfl)))) (fun _ _ _ _ _ => (rts_one (rf_cmpT op_gtD ok_gt (rf_var (i := 10) (by rfl) (by first | exact .inl (by rfl) | exact .inr (.inl (by rfl)) | exact .inr (.inr (by rfl))) (by decide) (by decide)) (rf_bin op_sub ok_sub (rf_sub (by rfl) (hu_of hr) (rf_var (i := 12) (by rfl) (by first | exact .inl (by rfl) | exact .inr (.inl (by rfl)) | exact .inr (.inr (by rfl))) (by decide) (by decide)) (rf_var (i := 9) (by rfl) (by first | exact .inl (by rfl) | exact .inr (.inl (by rfl)) | exact .inr (.inr (by rfl))) (by decide) (by decide)) (fun _ _ => rfl)) (rf_var (i := 7) (by rfl) (by first | exact .inl (by rfl) | exact .inr (.inl (by rfl)) | exact .inr (.inr (by rfl))) (by decide) (by decide))) (by rfl)))) (fun _ _ _ _ _ => (rf_var (i := 10) (by rfl) (by first | exact .inl (by rfl) | exact .inr (.inl (by rfl)) | exact .inr (.inr (by rfl))) (by decide) (by decide))) (fun _ => rfl))) (by decide) (by decide) (by rfl) (by rfl)) (rf_var (i := 6) (by rfl) (by first | exact .inl (by rfl) | exact .inr (.inl (by rfl)) | exact .inr (.inr (by rfl))) (by decide) (by decide)) (by rfl)))) (fun _ _ _ _ _ => (rf_var (i := 9) (by rfl) (by first | exact .inl (by rfl) | exact .inr (.inl (by rfl)) | exact .inr (.inr (by rfl))) (by decide) (by decide))) (fun _ => rfl))) (rf_lst (rf_args_cons (rf_bin op_sub ok_sub (rf_b1 cr_lenD ok_len (by rfl) (by exact hT.b_len) (by rfl) (rf_var (i := 12) (by rfl) (by first | exact .inl (by rfl) | exact .inr (.inl (by rfl)) | exact .inr (.inr (by rfl))) (by decide) (by decide)) (by decide) (by decide) (by rfl) (by rfl)) (rf_c pe_int (fun _ _ => .int _))) rf_args_nil (by rfl))) (by rfl)))) (by rfl) (by first | exact .inl (by rfl) | exact .inr (by rfl))) (rs_one (rs_if (PW.pt (rf_orT (rf_cmpT (op_neD hr.units) ok_nev (rf_meth (by rfl) hC h_shows (hr.mono (by decide)) (takes_of rfl rfl rfl rfl) (rf_val (rn_mk (by rfl) (by exact k_Passed) (takes_of rfl rfl rfl rfl) (hr.mono (by decide)) (by rfl) (rf_args_cons (rf_var (i := 12) (by rfl) (by first | exact .inl (by rfl) | exact .inr (.inl (by rfl)) | exact .inr (.inr (by rfl))) (by decide) (by decide)) rf_args_nil (by rfl)) (by decide) (by rfl) (by rfl))) (rf_args_cons (rf_var (i := 6) (by rfl) (by first | exact .inl (by rfl) | exact .inr (.inl (by rfl)) | exact .inr (.inr (by rfl))) (by decide) (by decide)) (rf_args_cons (rf_var (i := 7) (by rfl) (by first | exact .inl (by rfl) | exact .inr (.inl (by rfl)) | exact .inr (.inr (by rfl))) (by decide) (by decide)) (rf_args_cons (rf_var (i := 2) (by rfl) (by first | exact .inl (by rfl) | exact .inr (.inl (by rfl)) | exact .inr (.inr (by rfl))) (by decide) (by decide)) rf_args_nil (by rfl)) (by rfl)) (by rfl)) (by rfl) (by rfl) (by rfl)) (rf_var (i := 19) (by rfl) (by first | exact .inl (by rfl) | exact .inr (.inl (by rfl)) | exact .inr (.inr (by rfl))) (by decide) (by decide)) (by rfl)) (rf_orT1 (PW.pt (rf_andT (rf_truth (rf_var (i := 19) (by rfl) (by first | exact .inl (by rfl) | exact .inr (.inl (by rfl)) | exact .inr (.inr (by rfl))) (by decide) (by decide)) (fun _ => rfl) (by rfl)) (rf_andT1 (rf_truthI (by rfl) hC hBool (hr.mono (by decide)) (rf_var (i := 18) (by rfl) (by first | exact .inl (by rfl) | exact .inr (.inl (by rfl)) | exact .inr (.inr (by rfl))) (by decide) (by decide)) (fun _ => rfl)))))))) (rs_one (rs_ret (rf_c pe_bl (fun _ _ => .bl _)))) rs_nil))) (fun _ => rfl))
  have q14 : PS (cxOf (L2.CX P w) P w K mg base N_law "law" (defScope s_law) f (.ref c) A outer s H E) ((defBody s_law).getD 14 (.Pass ⟨0, 0, 0, 0⟩)) (RS (mkG gd K (lawCA cl lt (envOfC "law" (defScope s_law) s.heap.objs.size f (.ref c)) Pt) fa) (fun cls d _ H' => E cls d H') m_law14) := (rs_if (PW.pt (rf_orT (rf_truth (rf_meth (by rfl) hC h_shows (hr.mono (by decide)) (takes_of rfl rfl rfl rfl) (rf_val (rn_mk (by rfl) (by exact k_Passed) (takes_of rfl rfl rfl rfl) (hr.mono (by decide)) (by rfl) (rf_args_cons (rf_tup (rf_args_cons (rf_c pe_non (fun _ _ => .non)) rf_args_nil (by rfl))) rf_args_nil (by rfl)) (by decide) (by rfl) (by rfl))) (rf_args_cons (rf_var (i := 6) (by rfl) (by first | exact .inl (by rfl) | exact .inr (.inl (by rfl)) | exact .inr (.inr (by rfl))) (by decide) (by decide)) (rf_args_cons (rf_var (i := 7) (by rfl) (by first | exact .inl (by rfl) | exact .inr (.inl (by rfl)) | exact .inr (.inr (by rfl))) (by decide) (by decide)) (rf_args_cons (rf_var (i := 2) (by rfl) (by first | exact .inl (by rfl) | exact .inr (.inl (by rfl)) | exact .inr (.inr (by rfl))) (by decide) (by decide)) rf_args_nil (by rfl)) (by rfl)) (by rfl)) (by rfl) (by rfl) (by rfl)) (fun _ => rfl) (by rfl)) (rf_orT (rf_truth (rf_meth (by rfl) hC h_shows (hr.mono (by decide)) (takes_of rfl rfl rfl rfl) (rf_val (rn_mk (by rfl) (by exact k_Passed) (takes_of rfl rfl rfl rfl) (hr.mono (by decide)) (by rfl) (rf_args_cons (rf_tup (rf_args_cons (rf_c pe_int (fun _ _ => .int _)) (rf_args_cons (rf_c pe_int (fun _ _ => .int _)) rf_args_nil (by rfl)) (by rfl))) rf_args_nil (by rfl)) (by decide) (by rfl) (by rfl))) (rf_args_cons (rf_c pe_int (fun _ _ => .int _)) (rf_args_cons (rf_c pe_int (fun _ _ => .int _)) (rf_args_cons (rf_var (i := 2) (by rfl) (by first | exact .inl (by rfl) | exact .inr (.inl (by rfl)) | exact .inr (.inr (by rfl))) (by decide) (by decide)) rf_args_nil (by rfl)) (by rfl)) (by rfl)) (by rfl) (by rfl) (by rfl)) (fun _ => rfl) (by rfl)) (rf_orT (rf_truth (rf_meth (by rfl) hC h_shows (hr.mono (by decide)) (takes_of rfl rfl rfl rfl) (rf_val (rn_mk (by rfl) (by exact k_Passed) (takes_of rfl rfl rfl rfl) (hr.mono (by decide)) (by rfl) (rf_args_cons (rf_tup (rf_args_cons (rf_c pe_str (fun _ _ => .str _)) rf_args_nil (by rfl))) rf_args_nil (by rfl)) (by decide) (by rfl) (by rfl))) (rf_args_cons (rf_c pe_int (fun _ _ => .int _)) (rf_args_cons (rf_c pe_int (fun _ _ => .int _)) (rf_args_cons (rf_var (i := 2) (by rfl) (by first | exact .inl (by rfl) | exact .inr (.inl (by rfl)) | exact .inr (.inr (by rfl))) (by decide) (by decide)) rf_args_nil (by rfl)) (by rfl)) (by rfl)) (by rfl) (by rfl) (by rfl)) (fun _ => rfl) (by rfl)) (rf_orT (rf_truth (rf_meth (by rfl) hC h_shows (hr.mono (by decide)) (takes_of rfl rfl rfl rfl) (rf_val (rn_mk (by rfl) (by exact k_Passed) (takes_of rfl rfl rfl rfl) (hr.mono (by decide)) (by rfl) (rf_args_cons (rf_tup rf_args_nil) rf_args_nil (by rfl)) (by decide) (by rfl) (by rfl))) (rf_args_cons (rf_c pe_int (fun _ _ => .int _)) (rf_args_cons (rf_c pe_int (fun _ _ => .int _)) (rf_args_cons (rf_var (i := 2) (by rfl) (by first | exact .inl (by rfl) | exact .inr (.inl (by rfl)) | exact .inr (.inr (by rfl))) (by decide) (by decide)) rf_args_nil (by rfl)) (by rfl)) (by rfl)) (by rfl) (by rfl) (by rfl)) (fun _ => rfl) (by rfl)) (rf_orT1 (rf_truth (rf_meth (by rfl) hC h_shows (hr.mono (by decide)) (takes_of rfl rfl rfl rfl) (rf_val (rn_mk (by rfl) (by exact k_Bears) (takes_of rfl rfl rfl rfl) (hr.mono (by decide)) (by rfl) (rf_args_cons (rf_c pe_non (fun _ _ => .non)) rf_args_nil (by rfl)) (by decide) (by rfl) (by rfl))) (rf_args_cons (rf_c pe_int (fun _ _ => .int _)) (rf_args_cons (rf_c pe_int (fun _ _ => .int _)) (rf_args_cons (rf_var (i := 2) (by rfl) (by first | exact .inl (by rfl) | exact .inr (.inl (by rfl)) | exact .inr (.inr (by rfl))) (by decide) (by decide)) rf_args_nil (by rfl)) (by rfl)) (by rfl)) (by rfl) (by rfl) (by rfl)) (fun _ => rfl) (by rfl)))))))) (rs_one (rs_ret (rf_c pe_bl (fun _ _ => .bl _)))) rs_nil)
  have q15 : PS (cxOf (L2.CX P w) P w K mg base N_law "law" (defScope s_law) f (.ref c) A outer s H E) ((defBody s_law).getD 15 (.Pass ⟨0, 0, 0, 0⟩)) (RS (mkG gd K (lawCA cl lt (envOfC "law" (defScope s_law) s.heap.objs.size f (.ref c)) Pt) fa) (fun cls d _ H' => E cls d H') m_law15) := (rs_setLc (i := 20) (own := [("late", 16)]) (by rfl) sc.nd (by rfl) (by rfl) (by rfl) (ri_r2 (by rfl) (by exact hT.b_range) (rf_args_cons (rf_c pe_int (fun _ _ => .int _)) (rf_args_cons (rf_c pe_int (fun _ _ => .int _)) rf_args_nil (by rfl)) (by rfl)) (by rfl) (by rfl)) (blkOk_by (by rfl)) (by decide) (fun _ _ _ _ _ => (rg_name (i := 16) sc.nd (by rfl) (by first | exact .inl (by rfl) | exact .inr (by rfl)) (by first | exact .inl (by rfl) | exact .inr (by rfl)))) (fun _ _ _ _ _ => (rts_one (rf_cmpT op_le ok_le (rf_cal (by rfl) (by exact c_most_within) takes_none5 (hr.mono (by decide)) (by rfl) (rf_args_cons (rf_var (i := 16) (by rfl) (by first | exact .inl (by rfl) | exact .inr (.inl (by rfl)) | exact .inr (.inr (by rfl))) (by decide) (by decide)) (rf_args_cons (rf_var (i := 2) (by rfl) (by first | exact .inl (by rfl) | exact .inr (.inl (by rfl)) | exact .inr (.inr (by rfl))) (by decide) (by decide)) rf_args_nil (by rfl)) (by rfl)) (by decide) (by rfl) (by rfl)) (rf_var (i := 6) (by rfl) (by first | exact .inl (by rfl) | exact .inr (.inl (by rfl)) | exact .inr (.inr (by rfl))) (by decide) (by decide)) (by rfl)))) (fun _ _ _ _ _ => (rf_var (i := 16) (by rfl) (by first | exact .inl (by rfl) | exact .inr (.inl (by rfl)) | exact .inr (.inr (by rfl))) (by decide) (by decide))) (fun _ => rfl))
  have q16 : PS (cxOf (L2.CX P w) P w K mg base N_law "law" (defScope s_law) f (.ref c) A outer s H E) ((defBody s_law).getD 16 (.Pass ⟨0, 0, 0, 0⟩)) (RS (mkG gd K (lawCA cl lt (envOfC "law" (defScope s_law) s.heap.objs.size f (.ref c)) Pt) fa) (fun cls d _ H' => E cls d H') m_law16) := (rs_if (PW.pt (rf_orT (rf_cmpT (op_neD hr.units) ok_nev (rf_cal (by rfl) (by exact c_greatest_ticks) (takes_of rfl rfl rfl rfl) (hr.mono (by decide)) (by rfl) (rf_args_cons (rf_var (i := 6) (by rfl) (by first | exact .inl (by rfl) | exact .inr (.inl (by rfl)) | exact .inr (.inr (by rfl))) (by decide) (by decide)) (rf_args_cons (rf_var (i := 2) (by rfl) (by first | exact .inl (by rfl) | exact .inr (.inl (by rfl)) | exact .inr (.inr (by rfl))) (by decide) (by decide)) rf_args_nil (by rfl)) (by rfl)) (by decide) (by rfl) (by rfl)) (rf_ifE (rf_cmpT (op_neD hr.units) ok_nev (rf_var (i := 20) (by rfl) (by first | exact .inl (by rfl) | exact .inr (.inl (by rfl)) | exact .inr (.inr (by rfl))) (by decide) (by decide)) (rf_lst rf_args_nil) (by rfl)) (rf_sub (by rfl) (hu_of hr) (rf_var (i := 20) (by rfl) (by first | exact .inl (by rfl) | exact .inr (.inl (by rfl)) | exact .inr (.inr (by rfl))) (by decide) (by decide)) (rf_neg (rf_c pe_int (fun _ _ => .int _))) (fun _ _ => rfl)) (rf_c pe_int (fun _ _ => .int _))) (by rfl)) (rf_orT1 (rf_cmpT (op_neD hr.units) ok_nev (rf_var (i := 20) (by rfl) (by first | exact .inl (by rfl) | exact .inr (.inl (by rfl)) | exact .inr (.inr (by rfl))) (by decide) (by decide)) (rf_val (rn_listRg2 (by rfl) (by rfl) (by exact hT.b_list) (by rfl) (by exact hT.b_range) (rf_c pe_int (fun _ _ => .int _)) (rf_bin op_addD ok_add (rf_b1 cr_lenD ok_len (by rfl) (by exact hT.b_len) (by rfl) (rf_var (i := 20) (by rfl) (by first | exact .inl (by rfl) | exact .inr (.inl (by rfl)) | exact .inr (.inr (by rfl))) (by decide) (by decide)) (by decide) (by decide) (by rfl) (by rfl)) (rf_c pe_int (fun _ _ => .int _))) (by rfl) (by rfl) (by rfl) (by rfl))) (by rfl))))) (rs_one (rs_ret (rf_c pe_bl (fun _ _ => .bl _)))) rs_nil)
  have q17 : PS (cxOf (L2.CX P w) P w K mg base N_law "law" (defScope s_law) f (.ref c) A outer s H E) ((defBody s_law).getD 17 (.Pass ⟨0, 0, 0, 0⟩)) (RS (mkG gd K (lawCA cl lt (envOfC "law" (defScope s_law) s.heap.objs.size f (.ref c)) Pt) fa) (fun cls d _ H' => E cls d H') m_law17) := (rs_set (i := 21) sc.nd (by rfl) (by first | exact .inl (by rfl) | exact .inr (by rfl)) (rf_lst (rf_args_cons (rf_tup (rf_args_cons (rf_lam (n := 0) (t := lamT 0) hl (by rfl) TB (by rfl) (by exact List.mem_cons_self) (fun p hp _ => mem1 hp) (LamX.lamS_by (by rfl)) (by rfl)) (rf_args_cons (rf_tup (rf_args_cons (rf_c pe_str (fun _ _ => .str _)) (rf_args_cons (rf_c pe_non (fun _ _ => .non)) rf_args_nil (by rfl)) (by rfl))) rf_args_nil (by rfl)) (by rfl))) (rf_args_cons (rf_tup (rf_args_cons (rf_lam (n := 1) (t := lamT 1) hl (by rfl) TB (by rfl) (by exact List.mem_cons_self) (fun p hp _ => mem1 hp) (LamX.lamS_by (by rfl)) (by rfl)) (rf_args_cons (rf_tup (rf_args_cons (rf_c pe_str (fun _ _ => .str _)) (rf_args_cons (rf_c pe_non (fun _ _ => .non)) rf_args_nil (by rfl)) (by rfl))) rf_args_nil (by rfl)) (by rfl))) (rf_args_cons (rf_tup (rf_args_cons (rf_lam (n := 2) (t := lamT 2) hl (by rfl) TB (by rfl) (by exact List.mem_cons_self) (fun p hp _ => mem1 hp) (LamX.lamS_by (by rfl)) (by rfl)) (rf_args_cons (rf_tup (rf_args_cons (rf_c pe_str (fun _ _ => .str _)) (rf_args_cons (rf_c pe_non (fun _ _ => .non)) rf_args_nil (by rfl)) (by rfl))) rf_args_nil (by rfl)) (by rfl))) (rf_args_cons (rf_tup (rf_args_cons (rf_lam (n := 3) (t := lamT 3) hl (by rfl) TB (by rfl) (by exact List.mem_cons_self) (fun p hp _ => mem1 hp) (LamX.lamS_by (by rfl)) (by rfl)) (rf_args_cons (rf_tup (rf_args_cons (rf_c pe_str (fun _ _ => .str _)) (rf_args_cons (rf_c pe_non (fun _ _ => .non)) rf_args_nil (by rfl)) (by rfl))) rf_args_nil (by rfl)) (by rfl))) (rf_args_cons (rf_tup (rf_args_cons (rf_lam (n := 4) (t := lamT 4) hl (by rfl) TB (by rfl) (by exact List.mem_cons_self) (fun p hp _ => mem1 hp) (LamX.lamS_by (by rfl)) (by rfl)) (rf_args_cons (rf_tup (rf_args_cons (rf_c pe_str (fun _ _ => .str _)) (rf_args_cons (rf_c pe_int (fun _ _ => .int _)) rf_args_nil (by rfl)) (by rfl))) rf_args_nil (by rfl)) (by rfl))) (rf_args_cons (rf_tup (rf_args_cons (rf_lam (n := 5) (t := lamT 5) hl (by rfl) TB (by rfl) (by exact List.mem_cons_self) (fun p hp _ => mem1 hp) (LamX.lamS_by (by rfl)) (by rfl)) (rf_args_cons (rf_tup (rf_args_cons (rf_c pe_str (fun _ _ => .str _)) (rf_args_cons (rf_c pe_non (fun _ _ => .non)) rf_args_nil (by rfl)) (by rfl))) rf_args_nil (by rfl)) (by rfl))) (rf_args_cons (rf_tup (rf_args_cons (rf_lam (n := 6) (t := lamT 6) hl (by rfl) TB (by rfl) (by exact List.mem_cons_self) (fun p hp _ => mem1 hp) (LamX.lamS_by (by rfl)) (by rfl)) (rf_args_cons (rf_tup (rf_args_cons (rf_c pe_str (fun _ _ => .str _)) (rf_args_cons (rf_c pe_non (fun _ _ => .non)) rf_args_nil (by rfl)) (by rfl))) rf_args_nil (by rfl)) (by rfl))) (rf_args_cons (rf_tup (rf_args_cons (rf_lam (n := 7) (t := lamT 7) hl (by rfl) TB (by rfl) (by exact List.mem_cons_self) (fun p hp _ => mem1 hp) (LamX.lamS_by (by rfl)) (by rfl)) (rf_args_cons (rf_tup (rf_args_cons (rf_c pe_str (fun _ _ => .str _)) (rf_args_cons (rf_c pe_non (fun _ _ => .non)) rf_args_nil (by rfl)) (by rfl))) rf_args_nil (by rfl)) (by rfl))) (rf_args_cons (rf_tup (rf_args_cons (rf_lam (n := 8) (t := lamT 8) hl (by rfl) TB (by rfl) (by exact List.mem_cons_self) (fun p hp _ => mem1 hp) (LamX.lamS_by (by rfl)) (by rfl)) (rf_args_cons (rf_tup (rf_args_cons (rf_c pe_str (fun _ _ => .str _)) (rf_args_cons (rf_c pe_non (fun _ _ => .non)) rf_args_nil (by rfl)) (by rfl))) rf_args_nil (by rfl)) (by rfl))) (rf_args_cons (rf_tup (rf_args_cons (rf_lam (n := 9) (t := lamT 9) hl (by rfl) TB (by rfl) (by exact List.mem_cons_self) (fun p hp _ => mem1 hp) (LamX.lamS_by (by rfl)) (by rfl)) (rf_args_cons (rf_tup (rf_args_cons (rf_c pe_str (fun _ _ => .str _)) (rf_args_cons (rf_c pe_non (fun _ _ => .non)) rf_args_nil (by rfl)) (by rfl))) rf_args_nil (by rfl)) (by rfl))) (rf_args_cons (rf_tup (rf_args_cons (rf_lam (n := 10) (t := lamT 10) hl (by rfl) TB (by rfl) (by exact List.mem_cons_self) (fun p hp _ => mem1 hp) (LamX.lamS_by (by rfl)) (by rfl)) (rf_args_cons (rf_tup (rf_args_cons (rf_c pe_str (fun _ _ => .str _)) (rf_args_cons (rf_c pe_non (fun _ _ => .non)) rf_args_nil (by rfl)) (by rfl))) rf_args_nil (by rfl)) (by rfl))) rf_args_nil (by rfl)) (by rfl)) (by rfl)) (by rfl)) (by rfl)) (by rfl)) (by rfl)) (by rfl)) (by rfl)) (by rfl)) (by rfl))) (by rfl) (by first | exact .inl (by rfl) | exact .inr (by rfl)))
  have q18 : PS (cxOf (L2.CX P w) P w K mg base N_law "law" (defScope s_law) f (.ref c) A outer s H E) ((defBody s_law).getD 18 (.Pass ⟨0, 0, 0, 0⟩)) (RS (mkG gd K (lawCA cl lt (envOfC "law" (defScope s_law) s.heap.objs.size f (.ref c)) Pt) fa) (fun cls d _ H' => E cls d H') m_law18) := (rs_ret (rf_andV (rf_b1 (cr_all (by rfl)) ok_all (by rfl) (by exact hT.b_all) (by rfl) (rf_val (rn_lcw (own := [("deed", 22), ("part", 23)]) (by rfl) sc.nd (ri_seq (by rfl) (rf_var (i := 21) (by rfl) (by first | exact .inl (by rfl) | exact .inr (.inl (by rfl)) | exact .inr (.inr (by rfl))) (by decide) (by decide))) (blkOk_by (by rfl)) (by decide) (fun _ _ _ _ _ => (rg_tup (by rfl) (by rfl) (rgs_cons (fun h1 h2 => pgs_cons h1 h2) (rg_name (i := 22) sc.nd (by rfl) (by first | exact .inl (by rfl) | exact .inr (by rfl)) (by first | exact .inl (by rfl) | exact .inr (by rfl))) (rgs_cons (fun h1 h2 => pgs_cons h1 h2) (rg_name (i := 23) sc.nd (by rfl) (by first | exact .inl (by rfl) | exact .inr (by rfl)) (by first | exact .inl (by rfl) | exact .inr (by rfl))) rgs_nil)) (by rfl) (by rfl))) (fun _ _ _ _ _ _ IB => (rf_cmpS (op_eqD hr.units) ok_eqv (rf_toldB (k := 24) (lt := lt) (lb := lamB) (an := told_an) (sub := subX) IB (blkOk_by (by rfl)) (by rfl) (by rfl) hl hLam hbind (by rfl) hm_told hk_told (by decide) lk_told hc_told hb_told sc__law_refused (by rfl) (by first | exact .inl (by rfl) | exact .inr (.inl (by rfl)) | exact .inr (.inr (by rfl))) (by decide) (by decide) hAns hsub (hr.mono (by decide)) hbodyL lamB_none (rf_var (i := 22) (by rfl) (by first | exact .inl (by rfl) | exact .inr (.inl (by rfl)) | exact .inr (.inr (by rfl))) (by decide) (by decide)) (by rfl) (by rfl)) (rf_var (i := 23) (by rfl) (by first | exact .inl (by rfl) | exact .inr (.inl (by rfl)) | exact .inr (.inr (by rfl))) (by decide) (by decide)) (by rfl))) (fun _ => rfl))) (by decide) (by decide) (by rfl) (by rfl)) (rf_andV (rf_neI (by rfl) hC hEq (hr.mono (by decide)) (op_neD hr.units) ok_nev (rf_val (rn_mk (by rfl) (by exact k_Bears) (takes_of rfl rfl rfl rfl) (hr.mono (by decide)) (by rfl) (rf_args_cons (rf_c pe_int (fun _ _ => .int _)) rf_args_nil (by rfl)) (by decide) (by rfl) (by rfl))) (rf_val (rn_mk (by rfl) (by exact k_Bears) (takes_of rfl rfl rfl rfl) (hr.mono (by decide)) (by rfl) (rf_args_cons (rf_c pe_int (fun _ _ => .int _)) rf_args_nil (by rfl)) (by decide) (by rfl) (by rfl))) (by rfl)) (rf_andV (rf_neI (by rfl) hC hEq (hr.mono (by decide)) (op_neD hr.units) ok_nev (rf_val (rn_mk (by rfl) (by exact k_Passed) (takes_of rfl rfl rfl rfl) (hr.mono (by decide)) (by rfl) (rf_args_cons (rf_tup (rf_args_cons (rf_c pe_int (fun _ _ => .int _)) rf_args_nil (by rfl))) rf_args_nil (by rfl)) (by decide) (by rfl) (by rfl))) (rf_val (rn_mk (by rfl) (by exact k_Passed) (takes_of rfl rfl rfl rfl) (hr.mono (by decide)) (by rfl) (rf_args_cons (rf_tup (rf_args_cons (rf_c pe_int (fun _ _ => .int _)) rf_args_nil (by rfl))) rf_args_nil (by rfl)) (by decide) (by rfl) (by rfl))) (by rfl)) (rf_andV1 (rf_eqI (by rfl) hC hEq (hr.mono (by decide)) (op_eqD hr.units) ok_eqv (rf_val (rn_mk (by rfl) (by exact k_Faults) (takes_of rfl rfl rfl rfl) (hr.mono (by decide)) (by rfl) (rf_args_cons (rf_fld (by rfl) hC (rf_var (i := 2) (by rfl) (by first | exact .inl (by rfl) | exact .inr (.inl (by rfl)) | exact .inr (.inr (by rfl))) (by decide) (by decide)) (by rfl)) (rf_args_cons (rf_fld (by rfl) hC (rf_var (i := 2) (by rfl) (by first | exact .inl (by rfl) | exact .inr (.inl (by rfl)) | exact .inr (.inr (by rfl))) (by decide) (by decide)) (by rfl)) rf_args_nil (by rfl)) (by rfl)) (by decide) (by rfl) (by rfl))) (rf_var (i := 2) (by rfl) (by first | exact .inl (by rfl) | exact .inr (.inl (by rfl)) | exact .inr (.inr (by rfl))) (by decide) (by decide)) (by rfl)))))))
  exact (rs_cons q0 (rs_cons q1 (rs_cons q2 (rs_cons q3 (rs_cons q4 (rs_cons q5 (rs_cons q6 (rs_cons q7 (rs_cons q8 (rs_cons q9 (rs_cons q10 (rs_cons q11 (rs_cons q12 (rs_cons q13 (rs_cons q14 (rs_cons q15 (rs_cons q16 (rs_cons q17 (rs_one q18)))))))))))))))))))
end
end K03

set_option Elab.async false
set_option linter.all false
set_option maxRecDepth 100000
set_option maxHeartbeats 2000000
/-! K03: what the written part says of the text. -/
namespace K03
open PySem L2 PyProof.Rows Rf
def clF (C1 C2 C3 C4 C5 : Addr) : Nat → Addr
  | 1 => C1
  | 2 => C2
  | 3 => C3
  | 4 => C4
  | 5 => C5
  | _ => 0
def faF (f0 f1 f2 f3 f4 f5 f6 : Addr) : Nat → Addr
  | 0 => f0
  | 1 => f1
  | 2 => f2
  | 3 => f3
  | 4 => f4
  | 5 => f5
  | 6 => f6
  | _ => 0
theorem exm_one {K : PySem.W.Frag} {S : Addr} (h1 : PySem.W.subIn K (.ref S) (.type "BaseException") = some true) (h2 : PySem.W.isClsIn K S = true) (h3 : PySem.W.typeIn K (.ref S) = some (.type "type")) (h4 : PySem.W.subIn K (.ref S) (.ref S) = some true) : PySem.W.exmOne K (.ref S) (.ref S) = some true := by
  have e2 : (PySem.W.clsIn K S).isSome = true := h2
  unfold PySem.W.exmOne
  simp only [h1, beq_self_eq_true, if_true]
  unfold PySem.W.kitCls
  simp only [h3, h4, e2, beq_self_eq_true, Bool.and_self, if_true]
set_option maxHeartbeats 8000000 in
theorem law_all {l : PySem.W.OpenLaw} {w : World} {K : PySem.W.Frag} {h : Heap} {mg : Str → Option Value} {fa : Addr} (X : K.In h) (G : h.Ns mainGlobals mg) (hfa : mg "law" = some (.ref fa)) (own : LamX.OwnTab K fa h)
    {C0 C1 C2 C3 C4 C5 : Addr}
    {ocis_integer kVis_integer dcis_integer pmis_integer cdis_integer ctis_integer : Value} {odis_integer anis_integer : Option Addr} {slis_integer : Array (Option Value)}
    {ocis_row kVis_row dcis_row pmis_row cdis_row ctis_row : Value} {odis_row anis_row : Option Addr} {slis_row : Array (Option Value)}
    {ocis_number kVis_number dcis_number pmis_number cdis_number ctis_number : Value} {odis_number anis_number : Option Addr} {slis_number : Array (Option Value)}
    {occheck_number kVcheck_number dccheck_number pmcheck_number cdcheck_number ctcheck_number : Value} {odcheck_number ancheck_number : Option Addr} {slcheck_number : Array (Option Value)}
    {occheck_faults kVcheck_faults dccheck_faults pmcheck_faults cdcheck_faults ctcheck_faults : Value} {odcheck_faults ancheck_faults : Option Addr} {slcheck_faults : Array (Option Value)}
    {occheck_falls kVcheck_falls dccheck_falls pmcheck_falls cdcheck_falls ctcheck_falls : Value} {odcheck_falls ancheck_falls : Option Addr} {slcheck_falls : Array (Option Value)}
    {ocwithin kVwithin dcwithin pmwithin cdwithin ctwithin : Value} {odwithin anwithin : Option Addr} {slwithin : Array (Option Value)}
    {ocare_within kVare_within dcare_within pmare_within cdare_within ctare_within : Value} {odare_within anare_within : Option Addr} {slare_within : Array (Option Value)}
    {ocfirst_beyond kVfirst_beyond dcfirst_beyond pmfirst_beyond cdfirst_beyond ctfirst_beyond : Value} {odfirst_beyond anfirst_beyond : Option Addr} {slfirst_beyond : Array (Option Value)}
    {ocsoonest kVsoonest dcsoonest pmsoonest cdsoonest ctsoonest : Value} {odsoonest ansoonest : Option Addr} {slsoonest : Array (Option Value)}
    {ocspan_of kVspan_of dcspan_of pmspan_of cdspan_of ctspan_of : Value} {odspan_of anspan_of : Option Addr} {slspan_of : Array (Option Value)}
    {occheck_bound kVcheck_bound dccheck_bound pmcheck_bound cdcheck_bound ctcheck_bound : Value} {odcheck_bound ancheck_bound : Option Addr} {slcheck_bound : Array (Option Value)}
    {ocmost_within kVmost_within dcmost_within pmmost_within cdmost_within ctmost_within : Value} {odmost_within anmost_within : Option Addr} {slmost_within : Array (Option Value)}
    {ocjudge_bound kVjudge_bound dcjudge_bound pmjudge_bound cdjudge_bound ctjudge_bound : Value} {odjudge_bound anjudge_bound : Option Addr} {sljudge_bound : Array (Option Value)}
    {ocleast_most kVleast_most dcleast_most pmleast_most cdleast_most ctleast_most : Value} {odleast_most anleast_most : Option Addr} {slleast_most : Array (Option Value)}
    {ocgreatest_ticks kVgreatest_ticks dcgreatest_ticks pmgreatest_ticks cdgreatest_ticks ctgreatest_ticks : Value} {odgreatest_ticks angreatest_ticks : Option Addr} {slgreatest_ticks : Array (Option Value)}
    {oc_law_number kV_law_number dc_law_number pm_law_number cd_law_number ct_law_number : Value} {od_law_number an_law_number : Option Addr} {sl_law_number : Array (Option Value)}
    {oc_law_take kV_law_take dc_law_take pm_law_take cd_law_take ct_law_take : Value} {od_law_take an_law_take : Option Addr} {sl_law_take : Array (Option Value)}
    {oc_law_refused kV_law_refused dc_law_refused pm_law_refused cd_law_refused ct_law_refused : Value} {od_law_refused an_law_refused : Option Addr} {sl_law_refused : Array (Option Value)}
    {oc_law_most kV_law_most dc_law_most pm_law_most cd_law_most ct_law_most : Value} {od_law_most an_law_most : Option Addr} {sl_law_most : Array (Option Value)}
    {oc_law_rows kV_law_rows dc_law_rows pm_law_rows cd_law_rows ct_law_rows : Value} {od_law_rows an_law_rows : Option Addr} {sl_law_rows : Array (Option Value)}
    {ocFaults_init kVFaults_init dcFaults_init pmFaults_init cdFaults_init ctFaults_init : Value} {odFaults_init anFaults_init : Option Addr} {slFaults_init : Array (Option Value)}
    {ocBears_init kVBears_init dcBears_init pmBears_init cdBears_init ctBears_init : Value} {odBears_init anBears_init : Option Addr} {slBears_init : Array (Option Value)}
    {ocPassed_init kVPassed_init dcPassed_init pmPassed_init cdPassed_init ctPassed_init : Value} {odPassed_init anPassed_init : Option Addr} {slPassed_init : Array (Option Value)}
    {ocFaults_eq kVFaults_eq dcFaults_eq pmFaults_eq cdFaults_eq ctFaults_eq : Value} {odFaults_eq anFaults_eq : Option Addr} {slFaults_eq : Array (Option Value)}
    {ocBears_bool kVBears_bool dcBears_bool pmBears_bool cdBears_bool ctBears_bool : Value} {odBears_bool anBears_bool : Option Addr} {slBears_bool : Array (Option Value)}
    {ocBears_eq kVBears_eq dcBears_eq pmBears_eq cdBears_eq ctBears_eq : Value} {odBears_eq anBears_eq : Option Addr} {slBears_eq : Array (Option Value)}
    {ocBears_shows kVBears_shows dcBears_shows pmBears_shows cdBears_shows ctBears_shows : Value} {odBears_shows anBears_shows : Option Addr} {slBears_shows : Array (Option Value)}
    {ocPassed_bool kVPassed_bool dcPassed_bool pmPassed_bool cdPassed_bool ctPassed_bool : Value} {odPassed_bool anPassed_bool : Option Addr} {slPassed_bool : Array (Option Value)}
    {ocPassed_eq kVPassed_eq dcPassed_eq pmPassed_eq cdPassed_eq ctPassed_eq : Value} {odPassed_eq anPassed_eq : Option Addr} {slPassed_eq : Array (Option Value)}
    {ocPassed_shows kVPassed_shows dcPassed_shows pmPassed_shows cdPassed_shows ctPassed_shows : Value} {odPassed_shows anPassed_shows : Option Addr} {slPassed_shows : Array (Option Value)}
    {nm1 q1 : Str} {N1 : Addr} {bs1 : List Value} {sn1 : List Str} {sub1 : List Value} {ab1 : Bool} {col1 : Option Bool} {dd1 : Option Addr} {m01 m11 m21 m31 m51 : Option Value}
    {ocBadPart_init kVBadPart_init dcBadPart_init pmBadPart_init cdBadPart_init ctBadPart_init : Value} {odBadPart_init anBadPart_init : Option Addr} {slBadPart_init : Array (Option Value)}
    {oclaw kVlaw dclaw pmlaw ctlaw : Value} {odlaw anlaw : Option Addr} {sllaw : Array (Option Value)}
    {cl Pt : Addr} {et : Value} {dt : Option Addr} {vt : Array Value} {st : Array (Option Value)}
    {f_is_integer f_is_row f_is_number f_check_number f_check_faults f_check_falls f_within f_are_within f_first_beyond f_soonest f_span_of f_check_bound f_most_within f_judge_bound f_least_most f_greatest_ticks f__law_number f__law_take f__law_refused f__law_most f__law_rows f_Faults_init f_Bears_init f_Passed_init f_Faults_eq f_Bears_bool f_Bears_eq f_Bears_shows f_Passed_bool f_Passed_eq f_Passed_shows f_BadPart_init f_law : Addr}
    (aC1 : PySem.W.nsIn K mainGlobals "BadPart" = some (some (.ref C1)))
    (aC2 : PySem.W.nsIn K mainGlobals "TooLarge" = some (some (.ref C2)))
    (aC3 : PySem.W.nsIn K mainGlobals "Faults" = some (some (.ref C3)))
    (aC4 : PySem.W.nsIn K mainGlobals "Bears" = some (some (.ref C4)))
    (aC5 : PySem.W.nsIn K mainGlobals "Passed" = some (some (.ref C5)))
    (z_isinstance : PySem.W.nsIn K mainGlobals "isinstance" = some none)
    (z_int : PySem.W.nsIn K mainGlobals "int" = some none)
    (z_bool : PySem.W.nsIn K mainGlobals "bool" = some none)
    (z_list : PySem.W.nsIn K mainGlobals "list" = some none)
    (z_tuple : PySem.W.nsIn K mainGlobals "tuple" = some none)
    (z_enumerate : PySem.W.nsIn K mainGlobals "enumerate" = some none)
    (z_all : PySem.W.nsIn K mainGlobals "all" = some none)
    (z_any : PySem.W.nsIn K mainGlobals "any" = some none)
    (z_len : PySem.W.nsIn K mainGlobals "len" = some none)
    (z_range : PySem.W.nsIn K mainGlobals "range" = some none)
    (z_max : PySem.W.nsIn K mainGlobals "max" = some none)
    (z_min : PySem.W.nsIn K mainGlobals "min" = some none)
    (z_zip : PySem.W.nsIn K mainGlobals "zip" = some none)
    (z_sorted : PySem.W.nsIn K mainGlobals "sorted" = some none)
    (a_is_integer : PySem.W.nsIn K mainGlobals "is_integer" = some (some (.ref f_is_integer)))
    (l_is_integer : K.lookup f_is_integer = some ⟨ocis_integer, odis_integer, .func (PySem.W.fnOf "is_integer" "is_integer" (defArgs s_is_integer) (defBody s_is_integer) (defScope s_is_integer) .none kVis_integer dcis_integer pmis_integer anis_integer cdis_integer ctis_integer), slis_integer⟩)
    (c_is_integer : PySem.W.codeIn K cdis_integer "is_integer" = true)
    (k_is_integer : PySem.W.keepIn K (.ref f_is_integer) = true)
    (a_is_row : PySem.W.nsIn K mainGlobals "is_row" = some (some (.ref f_is_row)))
    (l_is_row : K.lookup f_is_row = some ⟨ocis_row, odis_row, .func (PySem.W.fnOf "is_row" "is_row" (defArgs s_is_row) (defBody s_is_row) (defScope s_is_row) .none kVis_row dcis_row pmis_row anis_row cdis_row ctis_row), slis_row⟩)
    (c_is_row : PySem.W.codeIn K cdis_row "is_row" = true)
    (k_is_row : PySem.W.keepIn K (.ref f_is_row) = true)
    (a_is_number : PySem.W.nsIn K mainGlobals "is_number" = some (some (.ref f_is_number)))
    (l_is_number : K.lookup f_is_number = some ⟨ocis_number, odis_number, .func (PySem.W.fnOf "is_number" "is_number" (defArgs s_is_number) (defBody s_is_number) (defScope s_is_number) .none kVis_number dcis_number pmis_number anis_number cdis_number ctis_number), slis_number⟩)
    (c_is_number : PySem.W.codeIn K cdis_number "is_number" = true)
    (k_is_number : PySem.W.keepIn K (.ref f_is_number) = true)
    (a_check_number : PySem.W.nsIn K mainGlobals "check_number" = some (some (.ref f_check_number)))
    (l_check_number : K.lookup f_check_number = some ⟨occheck_number, odcheck_number, .func (PySem.W.fnOf "check_number" "check_number" (defArgs s_check_number) (defBody s_check_number) (defScope s_check_number) .none kVcheck_number dccheck_number pmcheck_number ancheck_number cdcheck_number ctcheck_number), slcheck_number⟩)
    (c_check_number : PySem.W.codeIn K cdcheck_number "check_number" = true)
    (k_check_number : PySem.W.keepIn K (.ref f_check_number) = true)
    (a_check_faults : PySem.W.nsIn K mainGlobals "check_faults" = some (some (.ref f_check_faults)))
    (l_check_faults : K.lookup f_check_faults = some ⟨occheck_faults, odcheck_faults, .func (PySem.W.fnOf "check_faults" "check_faults" (defArgs s_check_faults) (defBody s_check_faults) (defScope s_check_faults) .none kVcheck_faults dccheck_faults pmcheck_faults ancheck_faults cdcheck_faults ctcheck_faults), slcheck_faults⟩)
    (c_check_faults : PySem.W.codeIn K cdcheck_faults "check_faults" = true)
    (k_check_faults : PySem.W.keepIn K (.ref f_check_faults) = true)
    (a_check_falls : PySem.W.nsIn K mainGlobals "check_falls" = some (some (.ref f_check_falls)))
    (l_check_falls : K.lookup f_check_falls = some ⟨occheck_falls, odcheck_falls, .func (PySem.W.fnOf "check_falls" "check_falls" (defArgs s_check_falls) (defBody s_check_falls) (defScope s_check_falls) .none kVcheck_falls dccheck_falls pmcheck_falls ancheck_falls cdcheck_falls ctcheck_falls), slcheck_falls⟩)
    (c_check_falls : PySem.W.codeIn K cdcheck_falls "check_falls" = true)
    (k_check_falls : PySem.W.keepIn K (.ref f_check_falls) = true)
    (a_within : PySem.W.nsIn K mainGlobals "within" = some (some (.ref f_within)))
    (l_within : K.lookup f_within = some ⟨ocwithin, odwithin, .func (PySem.W.fnOf "within" "within" (defArgs s_within) (defBody s_within) (defScope s_within) .none kVwithin dcwithin pmwithin anwithin cdwithin ctwithin), slwithin⟩)
    (c_within : PySem.W.codeIn K cdwithin "within" = true)
    (k_within : PySem.W.keepIn K (.ref f_within) = true)
    (a_are_within : PySem.W.nsIn K mainGlobals "are_within" = some (some (.ref f_are_within)))
    (l_are_within : K.lookup f_are_within = some ⟨ocare_within, odare_within, .func (PySem.W.fnOf "are_within" "are_within" (defArgs s_are_within) (defBody s_are_within) (defScope s_are_within) .none kVare_within dcare_within pmare_within anare_within cdare_within ctare_within), slare_within⟩)
    (c_are_within : PySem.W.codeIn K cdare_within "are_within" = true)
    (k_are_within : PySem.W.keepIn K (.ref f_are_within) = true)
    (a_first_beyond : PySem.W.nsIn K mainGlobals "first_beyond" = some (some (.ref f_first_beyond)))
    (l_first_beyond : K.lookup f_first_beyond = some ⟨ocfirst_beyond, odfirst_beyond, .func (PySem.W.fnOf "first_beyond" "first_beyond" (defArgs s_first_beyond) (defBody s_first_beyond) (defScope s_first_beyond) .none kVfirst_beyond dcfirst_beyond pmfirst_beyond anfirst_beyond cdfirst_beyond ctfirst_beyond), slfirst_beyond⟩)
    (c_first_beyond : PySem.W.codeIn K cdfirst_beyond "first_beyond" = true)
    (k_first_beyond : PySem.W.keepIn K (.ref f_first_beyond) = true)
    (a_soonest : PySem.W.nsIn K mainGlobals "soonest" = some (some (.ref f_soonest)))
    (l_soonest : K.lookup f_soonest = some ⟨ocsoonest, odsoonest, .func (PySem.W.fnOf "soonest" "soonest" (defArgs s_soonest) (defBody s_soonest) (defScope s_soonest) .none kVsoonest dcsoonest pmsoonest ansoonest cdsoonest ctsoonest), slsoonest⟩)
    (c_soonest : PySem.W.codeIn K cdsoonest "soonest" = true)
    (k_soonest : PySem.W.keepIn K (.ref f_soonest) = true)
    (a_span_of : PySem.W.nsIn K mainGlobals "span_of" = some (some (.ref f_span_of)))
    (l_span_of : K.lookup f_span_of = some ⟨ocspan_of, odspan_of, .func (PySem.W.fnOf "span_of" "span_of" (defArgs s_span_of) (defBody s_span_of) (defScope s_span_of) .none kVspan_of dcspan_of pmspan_of anspan_of cdspan_of ctspan_of), slspan_of⟩)
    (c_span_of : PySem.W.codeIn K cdspan_of "span_of" = true)
    (k_span_of : PySem.W.keepIn K (.ref f_span_of) = true)
    (a_check_bound : PySem.W.nsIn K mainGlobals "check_bound" = some (some (.ref f_check_bound)))
    (l_check_bound : K.lookup f_check_bound = some ⟨occheck_bound, odcheck_bound, .func (PySem.W.fnOf "check_bound" "check_bound" (defArgs s_check_bound) (defBody s_check_bound) (defScope s_check_bound) .none kVcheck_bound dccheck_bound pmcheck_bound ancheck_bound cdcheck_bound ctcheck_bound), slcheck_bound⟩)
    (c_check_bound : PySem.W.codeIn K cdcheck_bound "check_bound" = true)
    (k_check_bound : PySem.W.keepIn K (.ref f_check_bound) = true)
    (a_most_within : PySem.W.nsIn K mainGlobals "most_within" = some (some (.ref f_most_within)))
    (l_most_within : K.lookup f_most_within = some ⟨ocmost_within, odmost_within, .func (PySem.W.fnOf "most_within" "most_within" (defArgs s_most_within) (defBody s_most_within) (defScope s_most_within) .none kVmost_within dcmost_within pmmost_within anmost_within cdmost_within ctmost_within), slmost_within⟩)
    (c_most_within : PySem.W.codeIn K cdmost_within "most_within" = true)
    (k_most_within : PySem.W.keepIn K (.ref f_most_within) = true)
    (a_judge_bound : PySem.W.nsIn K mainGlobals "judge_bound" = some (some (.ref f_judge_bound)))
    (l_judge_bound : K.lookup f_judge_bound = some ⟨ocjudge_bound, odjudge_bound, .func (PySem.W.fnOf "judge_bound" "judge_bound" (defArgs s_judge_bound) (defBody s_judge_bound) (defScope s_judge_bound) .none kVjudge_bound dcjudge_bound pmjudge_bound anjudge_bound cdjudge_bound ctjudge_bound), sljudge_bound⟩)
    (c_judge_bound : PySem.W.codeIn K cdjudge_bound "judge_bound" = true)
    (k_judge_bound : PySem.W.keepIn K (.ref f_judge_bound) = true)
    (a_least_most : PySem.W.nsIn K mainGlobals "least_most" = some (some (.ref f_least_most)))
    (l_least_most : K.lookup f_least_most = some ⟨ocleast_most, odleast_most, .func (PySem.W.fnOf "least_most" "least_most" (defArgs s_least_most) (defBody s_least_most) (defScope s_least_most) .none kVleast_most dcleast_most pmleast_most anleast_most cdleast_most ctleast_most), slleast_most⟩)
    (c_least_most : PySem.W.codeIn K cdleast_most "least_most" = true)
    (k_least_most : PySem.W.keepIn K (.ref f_least_most) = true)
    (a_greatest_ticks : PySem.W.nsIn K mainGlobals "greatest_ticks" = some (some (.ref f_greatest_ticks)))
    (l_greatest_ticks : K.lookup f_greatest_ticks = some ⟨ocgreatest_ticks, odgreatest_ticks, .func (PySem.W.fnOf "greatest_ticks" "greatest_ticks" (defArgs s_greatest_ticks) (defBody s_greatest_ticks) (defScope s_greatest_ticks) .none kVgreatest_ticks dcgreatest_ticks pmgreatest_ticks angreatest_ticks cdgreatest_ticks ctgreatest_ticks), slgreatest_ticks⟩)
    (c_greatest_ticks : PySem.W.codeIn K cdgreatest_ticks "greatest_ticks" = true)
    (k_greatest_ticks : PySem.W.keepIn K (.ref f_greatest_ticks) = true)
    (a__law_number : PySem.W.nsIn K mainGlobals "_law_number" = some (some (.ref f__law_number)))
    (l__law_number : K.lookup f__law_number = some ⟨oc_law_number, od_law_number, .func (PySem.W.fnOf "_law_number" "_law_number" (defArgs s__law_number) (defBody s__law_number) (defScope s__law_number) .none kV_law_number dc_law_number pm_law_number an_law_number cd_law_number ct_law_number), sl_law_number⟩)
    (c__law_number : PySem.W.codeIn K cd_law_number "_law_number" = true)
    (k__law_number : PySem.W.keepIn K (.ref f__law_number) = true)
    (a__law_take : PySem.W.nsIn K mainGlobals "_law_take" = some (some (.ref f__law_take)))
    (l__law_take : K.lookup f__law_take = some ⟨oc_law_take, od_law_take, .func (PySem.W.fnOf "_law_take" "_law_take" (defArgs s__law_take) (defBody s__law_take) (defScope s__law_take) .none kV_law_take dc_law_take pm_law_take an_law_take cd_law_take ct_law_take), sl_law_take⟩)
    (c__law_take : PySem.W.codeIn K cd_law_take "_law_take" = true)
    (k__law_take : PySem.W.keepIn K (.ref f__law_take) = true)
    (a__law_refused : PySem.W.nsIn K mainGlobals "_law_refused" = some (some (.ref f__law_refused)))
    (l__law_refused : K.lookup f__law_refused = some ⟨oc_law_refused, od_law_refused, .func (PySem.W.fnOf "_law_refused" "_law_refused" (defArgs s__law_refused) (defBody s__law_refused) (defScope s__law_refused) .none kV_law_refused dc_law_refused pm_law_refused an_law_refused cd_law_refused ct_law_refused), sl_law_refused⟩)
    (c__law_refused : PySem.W.codeIn K cd_law_refused "_law_refused" = true)
    (k__law_refused : PySem.W.keepIn K (.ref f__law_refused) = true)
    (a__law_most : PySem.W.nsIn K mainGlobals "_law_most" = some (some (.ref f__law_most)))
    (l__law_most : K.lookup f__law_most = some ⟨oc_law_most, od_law_most, .func (PySem.W.fnOf "_law_most" "_law_most" (defArgs s__law_most) (defBody s__law_most) (defScope s__law_most) .none kV_law_most dc_law_most pm_law_most an_law_most cd_law_most ct_law_most), sl_law_most⟩)
    (c__law_most : PySem.W.codeIn K cd_law_most "_law_most" = true)
    (k__law_most : PySem.W.keepIn K (.ref f__law_most) = true)
    (a__law_rows : PySem.W.nsIn K mainGlobals "_law_rows" = some (some (.ref f__law_rows)))
    (l__law_rows : K.lookup f__law_rows = some ⟨oc_law_rows, od_law_rows, .func (PySem.W.fnOf "_law_rows" "_law_rows" (defArgs s__law_rows) (defBody s__law_rows) (defScope s__law_rows) .none kV_law_rows dc_law_rows pm_law_rows an_law_rows cd_law_rows ct_law_rows), sl_law_rows⟩)
    (c__law_rows : PySem.W.codeIn K cd_law_rows "_law_rows" = true)
    (k__law_rows : PySem.W.keepIn K (.ref f__law_rows) = true)
    (a_Faults_init : PySem.W.findIn K (.ref C3) "__init__" = some (some (.ref f_Faults_init)))
    (i_Faults_init : PySem.W.isFn K (.ref f_Faults_init) = true)
    (l_Faults_init : K.lookup f_Faults_init = some ⟨ocFaults_init, odFaults_init, .func (PySem.W.fnOf "__init__" "Faults.__init__" (defArgs s_Faults_init) (defBody s_Faults_init) (defScope s_Faults_init) .none kVFaults_init dcFaults_init pmFaults_init anFaults_init cdFaults_init ctFaults_init), slFaults_init⟩)
    (c_Faults_init : PySem.W.codeIn K cdFaults_init "Faults.__init__" = true)
    (k_Faults_init : PySem.W.keepIn K (.ref f_Faults_init) = true)
    (pg3 : PySem.W.plainGet K C3 Str.empty = true)
    (hd3 : PySem.W.hasDictIn K C3 = true)
    (po3 : PySem.W.plainOver K C3 = true)
    (sa3 : PySem.W.findIn K (.ref C3) "__setattr__" = some (some (.builtin "object.__setattr__")))
    (ha3 : PySem.W.findIn K (.ref C3) "__class__" = some (some (.builtin "object.__class__")))
    (hm3 : PySem.W.mroIn K C3 (.type "object") = some true)
    (mk3 : PySem.W.makesIn K C3 = true)
    (kc3 : PySem.W.keepIn K (.ref C3) = true)
    (n3_many : PySem.W.findIn K (.ref C3) "many" = some none)
    (n3_ticks : PySem.W.findIn K (.ref C3) "ticks" = some none)
    (a_Bears_init : PySem.W.findIn K (.ref C4) "__init__" = some (some (.ref f_Bears_init)))
    (i_Bears_init : PySem.W.isFn K (.ref f_Bears_init) = true)
    (l_Bears_init : K.lookup f_Bears_init = some ⟨ocBears_init, odBears_init, .func (PySem.W.fnOf "__init__" "Bears.__init__" (defArgs s_Bears_init) (defBody s_Bears_init) (defScope s_Bears_init) .none kVBears_init dcBears_init pmBears_init anBears_init cdBears_init ctBears_init), slBears_init⟩)
    (c_Bears_init : PySem.W.codeIn K cdBears_init "Bears.__init__" = true)
    (k_Bears_init : PySem.W.keepIn K (.ref f_Bears_init) = true)
    (pg4 : PySem.W.plainGet K C4 Str.empty = true)
    (hd4 : PySem.W.hasDictIn K C4 = true)
    (po4 : PySem.W.plainOver K C4 = true)
    (sa4 : PySem.W.findIn K (.ref C4) "__setattr__" = some (some (.builtin "object.__setattr__")))
    (ha4 : PySem.W.findIn K (.ref C4) "__class__" = some (some (.builtin "object.__class__")))
    (hm4 : PySem.W.mroIn K C4 (.type "object") = some true)
    (mk4 : PySem.W.makesIn K C4 = true)
    (kc4 : PySem.W.keepIn K (.ref C4) = true)
    (n4_many : PySem.W.findIn K (.ref C4) "many" = some none)
    (a_Passed_init : PySem.W.findIn K (.ref C5) "__init__" = some (some (.ref f_Passed_init)))
    (i_Passed_init : PySem.W.isFn K (.ref f_Passed_init) = true)
    (l_Passed_init : K.lookup f_Passed_init = some ⟨ocPassed_init, odPassed_init, .func (PySem.W.fnOf "__init__" "Passed.__init__" (defArgs s_Passed_init) (defBody s_Passed_init) (defScope s_Passed_init) .none kVPassed_init dcPassed_init pmPassed_init anPassed_init cdPassed_init ctPassed_init), slPassed_init⟩)
    (c_Passed_init : PySem.W.codeIn K cdPassed_init "Passed.__init__" = true)
    (k_Passed_init : PySem.W.keepIn K (.ref f_Passed_init) = true)
    (pg5 : PySem.W.plainGet K C5 Str.empty = true)
    (hd5 : PySem.W.hasDictIn K C5 = true)
    (po5 : PySem.W.plainOver K C5 = true)
    (sa5 : PySem.W.findIn K (.ref C5) "__setattr__" = some (some (.builtin "object.__setattr__")))
    (ha5 : PySem.W.findIn K (.ref C5) "__class__" = some (some (.builtin "object.__class__")))
    (hm5 : PySem.W.mroIn K C5 (.type "object") = some true)
    (mk5 : PySem.W.makesIn K C5 = true)
    (kc5 : PySem.W.keepIn K (.ref C5) = true)
    (n5_falls : PySem.W.findIn K (.ref C5) "falls" = some none)
    (a_Faults_eq : PySem.W.findIn K (.ref C3) "__eq__" = some (some (.ref f_Faults_eq)))
    (i_Faults_eq : PySem.W.isFn K (.ref f_Faults_eq) = true)
    (l_Faults_eq : K.lookup f_Faults_eq = some ⟨ocFaults_eq, odFaults_eq, .func (PySem.W.fnOf "__eq__" "Faults.__eq__" (defArgs s_Faults_eq) (defBody s_Faults_eq) (defScope s_Faults_eq) .none kVFaults_eq dcFaults_eq pmFaults_eq anFaults_eq cdFaults_eq ctFaults_eq), slFaults_eq⟩)
    (c_Faults_eq : PySem.W.codeIn K cdFaults_eq "Faults.__eq__" = true)
    (k_Faults_eq : PySem.W.keepIn K (.ref f_Faults_eq) = true)
    (a_Bears_bool : PySem.W.findIn K (.ref C4) "__bool__" = some (some (.ref f_Bears_bool)))
    (i_Bears_bool : PySem.W.isFn K (.ref f_Bears_bool) = true)
    (l_Bears_bool : K.lookup f_Bears_bool = some ⟨ocBears_bool, odBears_bool, .func (PySem.W.fnOf "__bool__" "Bears.__bool__" (defArgs s_Bears_bool) (defBody s_Bears_bool) (defScope s_Bears_bool) .none kVBears_bool dcBears_bool pmBears_bool anBears_bool cdBears_bool ctBears_bool), slBears_bool⟩)
    (c_Bears_bool : PySem.W.codeIn K cdBears_bool "Bears.__bool__" = true)
    (k_Bears_bool : PySem.W.keepIn K (.ref f_Bears_bool) = true)
    (a_Bears_eq : PySem.W.findIn K (.ref C4) "__eq__" = some (some (.ref f_Bears_eq)))
    (i_Bears_eq : PySem.W.isFn K (.ref f_Bears_eq) = true)
    (l_Bears_eq : K.lookup f_Bears_eq = some ⟨ocBears_eq, odBears_eq, .func (PySem.W.fnOf "__eq__" "Bears.__eq__" (defArgs s_Bears_eq) (defBody s_Bears_eq) (defScope s_Bears_eq) .none kVBears_eq dcBears_eq pmBears_eq anBears_eq cdBears_eq ctBears_eq), slBears_eq⟩)
    (c_Bears_eq : PySem.W.codeIn K cdBears_eq "Bears.__eq__" = true)
    (k_Bears_eq : PySem.W.keepIn K (.ref f_Bears_eq) = true)
    (a_Bears_shows : PySem.W.findIn K (.ref C4) "shows" = some (some (.ref f_Bears_shows)))
    (i_Bears_shows : PySem.W.isFn K (.ref f_Bears_shows) = true)
    (l_Bears_shows : K.lookup f_Bears_shows = some ⟨ocBears_shows, odBears_shows, .func (PySem.W.fnOf "shows" "Bears.shows" (defArgs s_Bears_shows) (defBody s_Bears_shows) (defScope s_Bears_shows) .none kVBears_shows dcBears_shows pmBears_shows anBears_shows cdBears_shows ctBears_shows), slBears_shows⟩)
    (c_Bears_shows : PySem.W.codeIn K cdBears_shows "Bears.shows" = true)
    (k_Bears_shows : PySem.W.keepIn K (.ref f_Bears_shows) = true)
    (a_Passed_bool : PySem.W.findIn K (.ref C5) "__bool__" = some (some (.ref f_Passed_bool)))
    (i_Passed_bool : PySem.W.isFn K (.ref f_Passed_bool) = true)
    (l_Passed_bool : K.lookup f_Passed_bool = some ⟨ocPassed_bool, odPassed_bool, .func (PySem.W.fnOf "__bool__" "Passed.__bool__" (defArgs s_Passed_bool) (defBody s_Passed_bool) (defScope s_Passed_bool) .none kVPassed_bool dcPassed_bool pmPassed_bool anPassed_bool cdPassed_bool ctPassed_bool), slPassed_bool⟩)
    (c_Passed_bool : PySem.W.codeIn K cdPassed_bool "Passed.__bool__" = true)
    (k_Passed_bool : PySem.W.keepIn K (.ref f_Passed_bool) = true)
    (a_Passed_eq : PySem.W.findIn K (.ref C5) "__eq__" = some (some (.ref f_Passed_eq)))
    (i_Passed_eq : PySem.W.isFn K (.ref f_Passed_eq) = true)
    (l_Passed_eq : K.lookup f_Passed_eq = some ⟨ocPassed_eq, odPassed_eq, .func (PySem.W.fnOf "__eq__" "Passed.__eq__" (defArgs s_Passed_eq) (defBody s_Passed_eq) (defScope s_Passed_eq) .none kVPassed_eq dcPassed_eq pmPassed_eq anPassed_eq cdPassed_eq ctPassed_eq), slPassed_eq⟩)
    (c_Passed_eq : PySem.W.codeIn K cdPassed_eq "Passed.__eq__" = true)
    (k_Passed_eq : PySem.W.keepIn K (.ref f_Passed_eq) = true)
    (a_Passed_shows : PySem.W.findIn K (.ref C5) "shows" = some (some (.ref f_Passed_shows)))
    (i_Passed_shows : PySem.W.isFn K (.ref f_Passed_shows) = true)
    (l_Passed_shows : K.lookup f_Passed_shows = some ⟨ocPassed_shows, odPassed_shows, .func (PySem.W.fnOf "shows" "Passed.shows" (defArgs s_Passed_shows) (defBody s_Passed_shows) (defScope s_Passed_shows) .none kVPassed_shows dcPassed_shows pmPassed_shows anPassed_shows cdPassed_shows ctPassed_shows), slPassed_shows⟩)
    (c_Passed_shows : PySem.W.codeIn K cdPassed_shows "Passed.shows" = true)
    (k_Passed_shows : PySem.W.keepIn K (.ref f_Passed_shows) = true)
    (hng : PySem.W.specialIn K (.builtin "object.__class__") "__get__" = some (some (.builtin "getset_descriptor.__get__")))
    (htk : PySem.W.takesIn K (.builtin "object.__class__") = some true)
    (nf3_3 : PySem.W.notFirst K C3 (.ref C3) = true)
    (nf4_4 : PySem.W.notFirst K C4 (.ref C4) = true)
    (nf5_5 : PySem.W.notFirst K C5 (.ref C5) = true)
    (ne4 : PySem.W.findIn K (.ref C4) "__ne__" = some (some (.builtin "object.__ne__")))
    (ne5 : PySem.W.findIn K (.ref C5) "__ne__" = some (some (.builtin "object.__ne__")))
    (ki0 : PySem.W.kitOne K (.type "int") (.type "int") = some true)
    (ki1 : PySem.W.kitOne K (.type "NoneType") (.type "int") = some false)
    (ki2 : PySem.W.kitOne K (.type "str") (.type "int") = some false)
    (ki3 : PySem.W.kitOne K (.type "int") (.type "bool") = some false)
    (ki4 : PySem.W.kitOne K (.type "list") (.type "list") = some true)
    (ki5 : PySem.W.kitOne K (.type "tuple") (.type "list") = some false)
    (ki6 : PySem.W.kitOne K (.type "tuple") (.type "tuple") = some true)
    (ki7 : PySem.W.kitOne K (.type "int") (.type "list") = some false)
    (ki8 : PySem.W.kitOne K (.type "int") (.type "tuple") = some false)
    (ki9 : PySem.W.kitOne K (.ref C3) (.ref C3) = some true)
    (ki10 : PySem.W.kitOne K (.type "NoneType") (.ref C3) = some false)
    (ki11 : PySem.W.kitOne K (.type "int") (.ref C3) = some false)
    (ki12 : PySem.W.kitOne K (.ref C4) (.ref C4) = some true)
    (ki13 : PySem.W.kitOne K (.ref C5) (.ref C5) = some true)
    (xL1 : K.lookup C1 = some (excClassObj nm1 q1 C1 N1 bs1 [.ref C0, .type "ValueError", .type "Exception", .type "BaseException", .type "object"] true sn1 sub1 ab1 col1 dd1 m01 m11 m21 m31 m51 "ValueError.__new__"))
    (xs1 : PySem.W.findIn K (.ref C1) "__setattr__" = some (some (.builtin "object.__setattr__")))
    (xg1 : PySem.W.findIn K (.ref C1) "__getattribute__" = some (some (.builtin "BaseException.__getattribute__")))
    (xt1 : PySem.W.findIn K (.ref C1) "__getattr__" = some none)
    (xe1 : PySem.W.subIn K (.ref C1) (.type "BaseException") = some true)
    (xy1 : PySem.W.typeIn K (.ref C1) = some (.type "type"))
    (xk1 : PySem.W.keepIn K (.ref C1) = true)
    (xh1 : PySem.W.hasDictIn K C1 = true)
    (xc1 : PySem.W.isClsIn K C1 = true)
    (xb1 : PySem.W.subIn K (.ref C1) (.ref C1) = some true)
    (a_BadPart_init : PySem.W.findIn K (.ref C1) "__init__" = some (some (.ref f_BadPart_init)))
    (t_BadPart_init : PySem.W.typeIn K (.ref f_BadPart_init) = some (.type "function"))
    (l_BadPart_init : K.lookup f_BadPart_init = some ⟨ocBadPart_init, odBadPart_init, .func (PySem.W.fnOf "__init__" "BadPart.__init__" (defArgs s_BadPart_init) (defBody s_BadPart_init) (defScope s_BadPart_init) .none kVBadPart_init dcBadPart_init pmBadPart_init anBadPart_init cdBadPart_init ctBadPart_init), slBadPart_init⟩)
    (c_BadPart_init : PySem.W.codeIn K cdBadPart_init "BadPart.__init__" = true)
    (k_BadPart_init : PySem.W.keepIn K (.ref f_BadPart_init) = true)
    (xn1_part : PySem.W.findIn K (.ref C1) "part" = some none)
    (xn1_place : PySem.W.findIn K (.ref C1) "place" = some none)
    (a_law : PySem.W.nsIn K mainGlobals "law" = some (some (.ref f_law)))
    (l_law : K.lookup f_law = some ⟨oclaw, odlaw, .func (PySem.W.fnOf "law" "law" (defArgs s_law) (defBody s_law) (defScope s_law) .none kVlaw dclaw pmlaw anlaw (.ref cl) ctlaw), sllaw⟩)
    (c_law : PySem.W.codeIn K (.ref cl) "law" = true)
    (k_law : PySem.W.keepIn K (.ref f_law) = true)
    (tc : K.lookup cl = some ⟨et, dt, .fields vt, st⟩)
    (tv : vt[11]? = some (.ref Pt))
    (tn : K.lookup Pt = none)
    (th : PySem.W.codeHdIn K cl Pt = true)
    (hrun : ∀ ns : List Int, ns.length ≤ 63 → (∀ z ∈ ns, Builtin.Int.intBits z ≤ 1048576) → ∃ hs', runFn N_law.length 1 p_law [.frl (ns.map D.int)] [] = .ok (.bl true) hs') :
    LamX.LawAtS l w K (L2.CX l.prog w) 31 63 "script" mg fa h := by
  have e := hfa.symm.trans (PySem.W.mg_of X G a_law)
  cases e
  have hT : Txt K mg (clF C1 C2 C3 C4 C5) (faF f_Faults_eq f_Bears_bool f_Bears_eq f_Bears_shows f_Passed_bool f_Passed_eq f_Passed_shows) := {
    b_isinstance := PySem.W.mg_none_of X G z_isinstance,
    b_int := PySem.W.mg_none_of X G z_int,
    b_bool := PySem.W.mg_none_of X G z_bool,
    b_list := PySem.W.mg_none_of X G z_list,
    b_tuple := PySem.W.mg_none_of X G z_tuple,
    b_enumerate := PySem.W.mg_none_of X G z_enumerate,
    b_all := PySem.W.mg_none_of X G z_all,
    b_any := PySem.W.mg_none_of X G z_any,
    b_len := PySem.W.mg_none_of X G z_len,
    b_range := PySem.W.mg_none_of X G z_range,
    b_max := PySem.W.mg_none_of X G z_max,
    b_min := PySem.W.mg_none_of X G z_min,
    b_zip := PySem.W.mg_none_of X G z_zip,
    b_sorted := PySem.W.mg_none_of X G z_sorted,
    g_BadPart := PySem.W.mg_of X G aC1,
    g_TooLarge := PySem.W.mg_of X G aC2,
    g_Faults := PySem.W.mg_of X G aC3,
    g_Bears := PySem.W.mg_of X G aC4,
    g_Passed := PySem.W.mg_of X G aC5,
    isi := ⟨ki0, ki1, ki2, ki3, ki4, ki5, ki6, ki7, ki8, ki9, ki10, ki11, ki12, ki13, trivial⟩,
    ins_3 := ⟨⟨pg3, hd3, po3, sa3⟩, ha3, hng, htk, hm3⟩,
    mk_3 := ⟨f_Faults_init, _, ⟨mk3, a_Faults_init, i_Faults_init, kc3⟩, fun_mk (st := s_Faults_init) l_Faults_init c_Faults_init k_Faults_init, (fun_mk (st := s_Faults_init) l_Faults_init c_Faults_init k_Faults_init).binds (ps := ps_Faults_init) fun _ _ _ _ _ _ us hl => match us, hl with | [_, _, _], _ => rfl⟩,
    na_3_many := n3_many,
    na_3_ticks := n3_ticks,
    ins_4 := ⟨⟨pg4, hd4, po4, sa4⟩, ha4, hng, htk, hm4⟩,
    mk_4 := ⟨f_Bears_init, _, ⟨mk4, a_Bears_init, i_Bears_init, kc4⟩, fun_mk (st := s_Bears_init) l_Bears_init c_Bears_init k_Bears_init, (fun_mk (st := s_Bears_init) l_Bears_init c_Bears_init k_Bears_init).binds (ps := ps_Bears_init) fun _ _ _ _ _ _ us hl => match us, hl with | [_, _], _ => rfl⟩,
    na_4_many := n4_many,
    ins_5 := ⟨⟨pg5, hd5, po5, sa5⟩, ha5, hng, htk, hm5⟩,
    mk_5 := ⟨f_Passed_init, _, ⟨mk5, a_Passed_init, i_Passed_init, kc5⟩, fun_mk (st := s_Passed_init) l_Passed_init c_Passed_init k_Passed_init, (fun_mk (st := s_Passed_init) l_Passed_init c_Passed_init k_Passed_init).binds (ps := ps_Passed_init) fun _ _ _ _ _ _ us hl => match us, hl with | [_, _], _ => rfl⟩,
    na_5_falls := n5_falls,
    me_0 := ⟨a_Faults_eq, i_Faults_eq, k_Faults_eq⟩,
    fm_0 := ⟨_, fun_mk (st := s_Faults_eq) l_Faults_eq c_Faults_eq k_Faults_eq, (fun_mk (st := s_Faults_eq) l_Faults_eq c_Faults_eq k_Faults_eq).binds (ps := ps_Faults_eq) fun _ _ _ _ _ _ us hl => match us, hl with | [_, _], _ => rfl⟩,
    me_1 := ⟨a_Bears_bool, i_Bears_bool, k_Bears_bool⟩,
    fm_1 := ⟨_, fun_mk (st := s_Bears_bool) l_Bears_bool c_Bears_bool k_Bears_bool, (fun_mk (st := s_Bears_bool) l_Bears_bool c_Bears_bool k_Bears_bool).binds (ps := ps_Bears_bool) fun _ _ _ _ _ _ us hl => match us, hl with | [_], _ => rfl⟩,
    me_2 := ⟨a_Bears_eq, i_Bears_eq, k_Bears_eq⟩,
    fm_2 := ⟨_, fun_mk (st := s_Bears_eq) l_Bears_eq c_Bears_eq k_Bears_eq, (fun_mk (st := s_Bears_eq) l_Bears_eq c_Bears_eq k_Bears_eq).binds (ps := ps_Bears_eq) fun _ _ _ _ _ _ us hl => match us, hl with | [_, _], _ => rfl⟩,
    me_3 := ⟨a_Bears_shows, i_Bears_shows, k_Bears_shows⟩,
    fm_3 := ⟨_, fun_mk (st := s_Bears_shows) l_Bears_shows c_Bears_shows k_Bears_shows, (fun_mk (st := s_Bears_shows) l_Bears_shows c_Bears_shows k_Bears_shows).binds (ps := ps_Bears_shows) fun _ _ _ _ _ _ us hl => match us, hl with | [_, _, _, _], _ => rfl⟩,
    me_4 := ⟨a_Passed_bool, i_Passed_bool, k_Passed_bool⟩,
    fm_4 := ⟨_, fun_mk (st := s_Passed_bool) l_Passed_bool c_Passed_bool k_Passed_bool, (fun_mk (st := s_Passed_bool) l_Passed_bool c_Passed_bool k_Passed_bool).binds (ps := ps_Passed_bool) fun _ _ _ _ _ _ us hl => match us, hl with | [_], _ => rfl⟩,
    me_5 := ⟨a_Passed_eq, i_Passed_eq, k_Passed_eq⟩,
    fm_5 := ⟨_, fun_mk (st := s_Passed_eq) l_Passed_eq c_Passed_eq k_Passed_eq, (fun_mk (st := s_Passed_eq) l_Passed_eq c_Passed_eq k_Passed_eq).binds (ps := ps_Passed_eq) fun _ _ _ _ _ _ us hl => match us, hl with | [_, _], _ => rfl⟩,
    me_6 := ⟨a_Passed_shows, i_Passed_shows, k_Passed_shows⟩,
    fm_6 := ⟨_, fun_mk (st := s_Passed_shows) l_Passed_shows c_Passed_shows k_Passed_shows, (fun_mk (st := s_Passed_shows) l_Passed_shows c_Passed_shows k_Passed_shows).binds (ps := ps_Passed_shows) fun _ _ _ _ _ _ us hl => match us, hl with | [_, _, _, _], _ => rfl⟩,
    nf_3_3 := nf3_3,
    nf_4_4 := nf4_4,
    nf_5_5 := nf5_5,
    ne_4 := ne4,
    ne_5 := ne5,
    ox_1 := ⟨⟨nm1, q1, N1, bs1, _, sn1, sub1, ab1, col1, dd1, m01, m11, m21, m31, m51, xL1, by rfl⟩, xs1, xe1, xy1, xk1⟩,
    xi_1 := ⟨f_BadPart_init, _, a_BadPart_init, t_BadPart_init, fun_mk (st := s_BadPart_init) l_BadPart_init c_BadPart_init k_BadPart_init, (fun_mk (st := s_BadPart_init) l_BadPart_init c_BadPart_init k_BadPart_init).binds (ps := ps_BadPart_init) fun _ _ _ _ _ _ us hl => match us, hl with | [_, _, _], _ => rfl⟩,
    xf_1 := ⟨xg1, xt1, xe1, xh1⟩,
    xe_1 := exm_one xe1 xc1 xy1 xb1,
    xn_1_part := xn1_part,
    xn_1_place := xn1_place,
    f_is_integer := ⟨f_is_integer, _, fun_mk (st := s_is_integer) l_is_integer c_is_integer k_is_integer, PySem.W.mg_of X G a_is_integer, (fun_mk (st := s_is_integer) l_is_integer c_is_integer k_is_integer).binds (ps := ps_is_integer) fun _ _ _ _ _ _ us hl => match us, hl with | [_], _ => rfl⟩,
    f_is_row := ⟨f_is_row, _, fun_mk (st := s_is_row) l_is_row c_is_row k_is_row, PySem.W.mg_of X G a_is_row, (fun_mk (st := s_is_row) l_is_row c_is_row k_is_row).binds (ps := ps_is_row) fun _ _ _ _ _ _ us hl => match us, hl with | [_], _ => rfl⟩,
    f_is_number := ⟨f_is_number, _, fun_mk (st := s_is_number) l_is_number c_is_number k_is_number, PySem.W.mg_of X G a_is_number, (fun_mk (st := s_is_number) l_is_number c_is_number k_is_number).binds (ps := ps_is_number) fun _ _ _ _ _ _ us hl => match us, hl with | [_, _, _], _ => rfl⟩,
    f_check_number := ⟨f_check_number, _, fun_mk (st := s_check_number) l_check_number c_check_number k_check_number, PySem.W.mg_of X G a_check_number, (fun_mk (st := s_check_number) l_check_number c_check_number k_check_number).binds (ps := ps_check_number) fun _ _ _ _ _ _ us hl => match us, hl with | [_, _, _, _], _ => rfl⟩,
    f_check_faults := ⟨f_check_faults, _, fun_mk (st := s_check_faults) l_check_faults c_check_faults k_check_faults, PySem.W.mg_of X G a_check_faults, (fun_mk (st := s_check_faults) l_check_faults c_check_faults k_check_faults).binds (ps := ps_check_faults) fun _ _ _ _ _ _ us hl => match us, hl with | [_], _ => rfl⟩,
    f_check_falls := ⟨f_check_falls, _, fun_mk (st := s_check_falls) l_check_falls c_check_falls k_check_falls, PySem.W.mg_of X G a_check_falls, (fun_mk (st := s_check_falls) l_check_falls c_check_falls k_check_falls).binds (ps := ps_check_falls) fun _ _ _ _ _ _ us hl => match us, hl with | [_], _ => rfl⟩,
    f_within := ⟨f_within, _, fun_mk (st := s_within) l_within c_within k_within, PySem.W.mg_of X G a_within, (fun_mk (st := s_within) l_within c_within k_within).binds (ps := ps_within) fun _ _ _ _ _ _ us hl => match us, hl with | [_, _, _], _ => rfl⟩,
    f_are_within := ⟨f_are_within, _, fun_mk (st := s_are_within) l_are_within c_are_within k_are_within, PySem.W.mg_of X G a_are_within, (fun_mk (st := s_are_within) l_are_within c_are_within k_are_within).binds (ps := ps_are_within) fun _ _ _ _ _ _ us hl => match us, hl with | [_, _], _ => rfl⟩,
    f_first_beyond := ⟨f_first_beyond, _, fun_mk (st := s_first_beyond) l_first_beyond c_first_beyond k_first_beyond, PySem.W.mg_of X G a_first_beyond, (fun_mk (st := s_first_beyond) l_first_beyond c_first_beyond k_first_beyond).binds (ps := ps_first_beyond) fun _ _ _ _ _ _ us hl => match us, hl with | [_, _, _], _ => rfl⟩,
    f_soonest := ⟨f_soonest, _, fun_mk (st := s_soonest) l_soonest c_soonest k_soonest, PySem.W.mg_of X G a_soonest, (fun_mk (st := s_soonest) l_soonest c_soonest k_soonest).binds (ps := ps_soonest) fun _ _ _ _ _ _ us hl => match us, hl with | [_, _], _ => rfl⟩,
    f_span_of := ⟨f_span_of, _, fun_mk (st := s_span_of) l_span_of c_span_of k_span_of, PySem.W.mg_of X G a_span_of, (fun_mk (st := s_span_of) l_span_of c_span_of k_span_of).binds (ps := ps_span_of) fun _ _ _ _ _ _ us hl => match us, hl with | [_, _], _ => rfl⟩,
    f_check_bound := ⟨f_check_bound, _, fun_mk (st := s_check_bound) l_check_bound c_check_bound k_check_bound, PySem.W.mg_of X G a_check_bound, (fun_mk (st := s_check_bound) l_check_bound c_check_bound k_check_bound).binds (ps := ps_check_bound) fun _ _ _ _ _ _ us hl => match us, hl with | [_, _, _], _ => rfl⟩,
    f_most_within := ⟨f_most_within, _, fun_mk (st := s_most_within) l_most_within c_most_within k_most_within, PySem.W.mg_of X G a_most_within, (fun_mk (st := s_most_within) l_most_within c_most_within k_most_within).binds (ps := ps_most_within) fun _ _ _ _ _ _ us hl => match us, hl with | [_, _], _ => rfl⟩,
    f_judge_bound := ⟨f_judge_bound, _, fun_mk (st := s_judge_bound) l_judge_bound c_judge_bound k_judge_bound, PySem.W.mg_of X G a_judge_bound, (fun_mk (st := s_judge_bound) l_judge_bound c_judge_bound k_judge_bound).binds (ps := ps_judge_bound) fun _ _ _ _ _ _ us hl => match us, hl with | [_, _, _], _ => rfl⟩,
    f_least_most := ⟨f_least_most, _, fun_mk (st := s_least_most) l_least_most c_least_most k_least_most, PySem.W.mg_of X G a_least_most, (fun_mk (st := s_least_most) l_least_most c_least_most k_least_most).binds (ps := ps_least_most) fun _ _ _ _ _ _ us hl => match us, hl with | [_, _], _ => rfl⟩,
    f_greatest_ticks := ⟨f_greatest_ticks, _, fun_mk (st := s_greatest_ticks) l_greatest_ticks c_greatest_ticks k_greatest_ticks, PySem.W.mg_of X G a_greatest_ticks, (fun_mk (st := s_greatest_ticks) l_greatest_ticks c_greatest_ticks k_greatest_ticks).binds (ps := ps_greatest_ticks) fun _ _ _ _ _ _ us hl => match us, hl with | [_, _], _ => rfl⟩,
    f__law_number := ⟨f__law_number, _, fun_mk (st := s__law_number) l__law_number c__law_number k__law_number, PySem.W.mg_of X G a__law_number, (fun_mk (st := s__law_number) l__law_number c__law_number k__law_number).binds (ps := ps__law_number) fun _ _ _ _ _ _ us hl => match us, hl with | [_, _], _ => rfl⟩,
    f__law_take := ⟨f__law_take, _, fun_mk (st := s__law_take) l__law_take c__law_take k__law_take, PySem.W.mg_of X G a__law_take, (fun_mk (st := s__law_take) l__law_take c__law_take k__law_take).binds (ps := ps__law_take) fun _ _ _ _ _ _ us hl => match us, hl with | [_, _], _ => rfl⟩,
    f__law_most := ⟨f__law_most, _, fun_mk (st := s__law_most) l__law_most c__law_most k__law_most, PySem.W.mg_of X G a__law_most, (fun_mk (st := s__law_most) l__law_most c__law_most k__law_most).binds (ps := ps__law_most) fun _ _ _ _ _ _ us hl => match us, hl with | [_, _], _ => rfl⟩,
    f__law_rows := ⟨f__law_rows, _, fun_mk (st := s__law_rows) l__law_rows c__law_rows k__law_rows, PySem.W.mg_of X G a__law_rows, (fun_mk (st := s__law_rows) l__law_rows c__law_rows k__law_rows).binds (ps := ps__law_rows) fun _ _ _ _ _ _ us hl => match us, hl with | [_, _], _ => rfl⟩ }
  have hR : ∃ f fd, Fun K "_law_refused" "_law_refused" s__law_refused f fd ∧ mg "_law_refused" = some (.ref f) ∧ Binds K fd ps__law_refused [] := ⟨f__law_refused, _, fun_mk (st := s__law_refused) l__law_refused c__law_refused k__law_refused, PySem.W.mg_of X G a__law_refused, (fun_mk (st := s__law_refused) l__law_refused c__law_refused k__law_refused).binds (ps := ps__law_refused) fun _ _ _ _ _ _ us hl => match us, hl with | [_], _ => rfl⟩
  exact law_at X own l_law rfl tc tv tn th (fun s u => .of_eq rfl) fun base B1 B2 TB => law_rf (gd := gd) (cl := clF C1 C2 C3 C4 C5) (fas := faF f_Faults_eq f_Bears_bool f_Bears_eq f_Bears_shows f_Passed_bool f_Passed_eq f_Passed_shows) (lt := lt) (N := N_law) (k := 30) (m := p_law) l_law c_law sc_law (fun A outer s H E hr => walk_law hT hR TB hr) hrun
end K03

set_option Elab.async false
set_option linter.all false
set_option maxRecDepth 100000
set_option maxHeartbeats 2000000
/-! K03, part P1: loops of pieces, in plain words. -/
namespace Rf
open PySem
/-- the state in a comprehension's block -/
def blkS (vs : List Nat) (acc : List D) (s : Stt) : Stt := ⟨wipeL s.σ vs, s.hs, s.tm ++ [.lst acc]⟩
theorem wipeL_idem (σ : List Sl) (vs : List Nat) : wipeL (wipeL σ vs) vs = wipeL σ vs := by
  apply List.ext_getElem?
  intro i
  rw [wipeL_get, wipeL_get, wipeL_len]
  split
  · rfl
  · rfl
/-- what the block makes of one thing: nothing, or a thing more -/
inductive Tn (c : M Bool) (e : M Hd) (s1 : Stt) : Option D → Prop
  | no (h : c s1 = .ok false s1) : Tn c e s1 none
  | yes {y : D} (h : c s1 = .ok true s1) (q : mD false e s1 = .ok y s1) : Tn c e s1 (some y)
theorem lcGo_of {J : It} {t : Tg} {c : M Bool} {e : M Hd} {vs : List Nat} {s0 : Stt} {xs : List D} {f : D → Option D}
    (hat : ∀ acc i, J.at i (blkS vs acc s0) = some xs[i]?) (hlen : xs.length ≤ 1000)
    (hstep : ∀ acc x, x ∈ xs → ∃ s1, t x (blkS vs acc s0) = some s1 ∧ wipeS vs s1 = blkS vs acc s0 ∧ s1.tm = s0.tm ++ [.lst acc] ∧ Tn c e s1 (f x)) :
    ∀ (n i : Nat) (acc : List D) (s : Stt), wipeS vs s = blkS vs acc s0 → s.tm = s0.tm ++ [.lst acc] → i + n = xs.length → acc.length ≤ i →
      ∃ s', lcGo J t c e vs s0.tm.length n i s = some s' ∧ wipeS vs s' = blkS vs (acc ++ (xs.drop i).filterMap f) s0 ∧ s'.tm = s0.tm ++ [.lst (acc ++ (xs.drop i).filterMap f)] := by
  intro n
  induction n with
  | zero =>
    intro i acc s hw ht hn hl
    have hi : xs[i]? = none := List.getElem?_eq_none (by omega)
    refine ⟨s, ?_, ?_, ?_⟩
    · unfold lcGo; rw [hw, hat, hi]
    · rw [List.drop_eq_nil_of_le (by omega)]; simpa using hw
    · rw [List.drop_eq_nil_of_le (by omega)]; simpa using ht
  | succ n ih =>
    intro i acc s hw ht hn hl
    have hi : i < xs.length := by omega
    have hx : xs[i]? = some xs[i] := List.getElem?_eq_getElem hi
    obtain ⟨s1, h1, h2, h3, h4⟩ := hstep acc xs[i] (List.getElem_mem hi)
    have hd : xs.drop i = xs[i] :: xs.drop (i + 1) := List.drop_eq_getElem_cons hi
    unfold lcGo
    rw [hw, hat, hx]
    simp only [h1]
    generalize hfx : f xs[i] = o at h4
    cases h4 with
    | no h =>
      simp only [h, Bool.false_eq_true, if_false]
      obtain ⟨s', q1, q2, q3⟩ := ih (i + 1) acc s1 h2 h3 (by omega) (by omega)
      refine ⟨s', q1, ?_, ?_⟩
      · rw [hd, List.filterMap_cons_none hfx]; exact q2
      · rw [hd, List.filterMap_cons_none hfx]; exact q3
    | yes h q =>
      rename_i y
      simp only [h, if_true, q]
      have hj : s1.tm[s0.tm.length]? = some (.lst acc) := by rw [h3]; simp
      have hz : acc.length < lim := by unfold lim; omega
      simp only [hj, if_pos hz]
      have hs : s1.tm.set s0.tm.length (.lst (acc ++ [y])) = s0.tm ++ [.lst (acc ++ [y])] := by rw [h3]; simp
      obtain ⟨s', q1, q2, q3⟩ := ih (i + 1) (acc ++ [y]) { s1 with tm := s1.tm.set s0.tm.length (.lst (acc ++ [y])) } (by
        unfold wipeS blkS at h2 ⊢
        simp only [Stt.mk.injEq] at h2 ⊢
        exact ⟨h2.1, h2.2.1, hs⟩) hs (by omega) (by rw [List.length_append]; simp; omega)
      refine ⟨s', q1, ?_, ?_⟩
      · rw [hd, List.filterMap_cons_some hfx]
        rw [List.append_assoc] at q2
        exact q2
      · rw [hd, List.filterMap_cons_some hfx]
        rw [List.append_assoc] at q3
        exact q3
theorem resL_back {σ0 σ : List Sl} {vs : List Nat} (h : wipeL σ vs = wipeL σ0 vs) (hn : ∀ v ∈ vs, v < σ0.length) : resL σ0 σ vs = σ0 := by
  have hl : σ.length = σ0.length := by rw [← wipeL_len σ vs, h, wipeL_len]
  apply List.ext_getElem?
  intro i
  rw [resL_get]
  by_cases q : i ∈ vs ∧ i < σ.length
  · rw [if_pos q, List.getD_eq_getElem?_getD]
    have : i < σ0.length := by omega
    rw [List.getElem?_eq_getElem this]; rfl
  · rw [if_neg q]
    have a := wipeL_get σ vs i
    have b := wipeL_get σ0 vs i
    rw [if_neg q] at a
    rw [if_neg (by rw [← hl]; exact q)] at b
    rw [← a, h, b]
/-- a comprehension as a value: the state as it was -/
theorem lc_is {mi : M It} {J : It} {t : Tg} {c : M Bool} {e : M Hd} {vs : List Nat} {s : Stt} {xs : List D} (f : D → Option D) (hmi : mi s = .ok J s) (hok : lcOk J vs s = true) (hJ : J.len s = xs.length) (hlen : xs.length ≤ 1000) (hv : ∀ v ∈ vs, v < s.σ.length)
    (hat : ∀ acc i, J.at i (blkS vs acc s) = some xs[i]?)
    (hstep : ∀ acc x, x ∈ xs → ∃ s1, t x (blkS vs acc s) = some s1 ∧ wipeS vs s1 = blkS vs acc s ∧ s1.tm = s.tm ++ [.lst acc] ∧ Tn c e s1 (f x)) :
    mVal (nLc mi t c e vs) s = .ok (.d (.lst (xs.filterMap f))) s := by
  obtain ⟨s', q1, q2, q3⟩ := lcGo_of hat hlen hstep xs.length 0 [] (pushT (.lst []) s) rfl rfl (by omega) (Nat.le_refl _)
  rw [← hJ] at q1
  simp only [List.drop_zero, List.nil_append] at q2 q3
  have hn : nLc mi t c e vs s = .ok s.tm.length (resS vs s s') := by
    unfold nLc bnd
    rw [hmi]
    simp only [hok, if_true, q1]
  unfold wipeS blkS at q2
  simp only [Stt.mk.injEq] at q2
  have hr : resS vs s s' = { s with tm := s.tm ++ [.lst (xs.filterMap f)] } := by
    unfold resS
    rw [resL_back q2.1 hv]
    cases s; cases s'
    simp only [Stt.mk.injEq] at *
    exact ⟨trivial, q2.2.1, q3⟩
  unfold mVal
  rw [hn, hr]
  simp [popT]
end Rf

set_option Elab.async false
set_option linter.all false
set_option maxRecDepth 100000
set_option maxHeartbeats 2000000
/-! K03, part P15: pieces that only read, evaluated. -/
namespace Rf
open PySem
theorem bnd_ok {α β : Type} {m : M α} {k : α → M β} {s s' : Stt} {a : α} (h : m s = .ok a s') : bnd m k s = k a s' := by unfold bnd; rw [h]
theorem sM_ok {α : Type} {m : M α} {k : α → MS} {s s' : Stt} {a : α} (h : m s = .ok a s') : sM m k s = k a s' := by unfold sM; rw [h]
abbrev Ev (m : M Hd) (s : Stt) (d : D) : Prop := m s = .ok (.d d) s
def Rd (m : M Hd) (s : Stt) (d : D) : Prop := ∃ h, m s = .ok h s ∧ cont h s = some d
theorem look_ok {h : Hd} {s : Stt} {d : D} (q : cont h s = some d) : look h s = .ok d s := by unfold look; rw [q]
theorem opt_ok {α : Type} {o : Option α} {a : α} {s : Stt} (h : o = some a) : opt o s = .ok a s := by rw [h]; rfl
theorem Ev.rd {m : M Hd} {s : Stt} {d : D} (h : Ev m s d) (u : unbox d s = some d) : Rd m s d := ⟨_, h, u⟩
section
variable {m ma mb mc : M Hd} {s : Stt} {x y z d : D} {op : D → D → Option D}
theorem evv {i : Nat} (h : s.σ[i]? = some (.val d)) : Ev (mVar i) s d := by unfold Ev mVar; rw [h]
theorem rv {i : Nat} (h : s.σ[i]? = some (.val d)) (u : unbox d s = some d) : Rd (mVar i) s d := (evv h).rd u
theorem ro {i : Nat} (h : s.σ[i]? = some (.own d)) : Rd (mVar i) s d := ⟨.own i, by unfold mVar; rw [h], by unfold cont; simp only [h]⟩
theorem evc : Ev (mC d) s d := rfl
theorem rc (u : unbox d s = some d) : Rd (mC d) s d := ⟨_, rfl, u⟩
theorem rd_bin (ha : Rd ma s x) (hb : Rd mb s y) (ho : op x y = some z) : Ev (mBin op ma mb) s z := by
  obtain ⟨h, h1, h2⟩ := ha
  obtain ⟨k, k1, k2⟩ := hb
  unfold Ev mBin
  rw [bnd_ok h1, bnd_ok k1, bnd_ok (look_ok h2), bnd_ok (look_ok k2), bnd_ok (opt_ok ho)]
  rfl
theorem rd_m1 {op : D → Option D} (ha : Rd ma s x) (ho : op x = some z) : Ev (m1 op ma) s z := by
  obtain ⟨h, h1, h2⟩ := ha
  unfold Ev m1
  rw [bnd_ok h1, bnd_ok (look_ok h2), bnd_ok (opt_ok ho)]
  rfl
theorem ev_n1 {op : D → Option D} (ha : Rd ma s x) (ho : op x = some z) : Ev (mVal (n1 op ma)) s z := by
  obtain ⟨h, h1, h2⟩ := ha
  have q : n1 op ma s = .ok s.tm.length (pushT z s) := by
    unfold n1
    rw [bnd_ok h1, bnd_ok (look_ok h2), bnd_ok (opt_ok ho)]
    rfl
  unfold Ev mVal
  rw [q]
  simp [pushT, popT]
theorem ev_chain {f f' : D → D → Option D} {b c : Bool} {w : D} (ha : Rd ma s x) (hb : Rd mb s y) (hc : Rd mc s w) (h1 : f x y = some (.bl b)) (h2 : f' y w = some (.bl c)) : Ev (mChain f f' ma mb mc) s (.bl (b && c)) := by
  obtain ⟨h, a1, a2⟩ := ha
  obtain ⟨k, b1, b2⟩ := hb
  obtain ⟨l, c1, c2⟩ := hc
  unfold Ev mChain
  rw [bnd_ok a1, bnd_ok b1, bnd_ok (look_ok a2), bnd_ok (look_ok b2), bnd_ok (opt_ok h1)]
  show bnd (opt (some b)) _ s = _
  rw [bnd_ok (opt_ok rfl)]
  cases b
  · rfl
  · simp only [if_true]
    rw [bnd_ok c1, bnd_ok (look_ok b2), bnd_ok (look_ok c2), bnd_ok (opt_ok h2)]
    rfl
theorem rd_slice {lo hi : Option (M Hd)} {l u : Option Int} (ha : Rd ma s x) (hl : mPart lo s = .ok l s) (hh : mPart hi s = .ok u s) (ho : sliceD x l u = some z) : Ev (mSlice ma lo hi) s z := by
  obtain ⟨h, h1, h2⟩ := ha
  unfold Ev mSlice
  rw [bnd_ok h1, bnd_ok hl, bnd_ok hh, bnd_ok (look_ok h2), bnd_ok (opt_ok ho)]
  rfl
theorem part_no : mPart none s = .ok none s := rfl
theorem part_of {i : Int} (h : Rd m s (.int i)) : mPart (some m) s = .ok (some i) s := by
  obtain ⟨h, h1, h2⟩ := h
  unfold mPart
  show bnd m _ s = _
  rw [bnd_ok h1, bnd_ok (look_ok h2)]
  rfl
theorem rd_fld {t : Gd} {f : Str} {c : Nat} {fs : List (Str × D)} (ha : Rd m s (.ins c fs)) (hl : lookF f fs = some d) (hk : t.okF c f = true) : Ev (mFld t f m) s d := by
  obtain ⟨h, h1, h2⟩ := ha
  unfold Ev mFld
  rw [bnd_ok h1, bnd_ok (look_ok h2), bnd_ok (opt_ok (show fldD f (.ins c fs) = some (c, d) from by show (lookF f fs).map _ = _; rw [hl]; rfl))]
  simp only [hk, if_true]
  rfl
theorem te_tb {b : Bool} (h : Rd m s (.bl b)) : mTB m s = .ok b s := by
  obtain ⟨h, h1, h2⟩ := h
  unfold mTB
  rw [bnd_ok h1, bnd_ok (look_ok h2)]
  rfl
theorem te_tv {b : Bool} (h : Rd m s d) (ht : truD d = some b) : mTV m s = .ok b s := by
  obtain ⟨h, h1, h2⟩ := h
  unfold mTV
  rw [bnd_ok h1, bnd_ok (look_ok h2), opt_ok ht]
theorem te_not {t : M Bool} {b : Bool} (h : t s = .ok b s) : mNotT t s = .ok (!b) s := by
  unfold mNotT
  rw [bnd_ok h]
  rfl
theorem te_and {t u : M Bool} {r : List (M Bool)} {b c : Bool} (h : t s = .ok b s) (h2 : b = true → mAndT (u :: r) s = .ok c s) : mAndT (t :: u :: r) s = .ok (b && c) s := by
  show bnd t _ s = _
  rw [bnd_ok h]
  cases b
  · rfl
  · simp only [if_true, Bool.true_and]; exact h2 rfl
theorem te_and1 {t : M Bool} {b : Bool} (h : t s = .ok b s) : mAndT [t] s = .ok b s := h
theorem te_or {t u : M Bool} {r : List (M Bool)} {b c : Bool} (h : t s = .ok b s) (h2 : b = false → mOrT (u :: r) s = .ok c s) : mOrT (t :: u :: r) s = .ok (b || c) s := by
  show bnd t _ s = _
  rw [bnd_ok h]
  cases b
  · simp only [Bool.false_eq_true, if_false, Bool.false_or]; exact h2 rfl
  · rfl
theorem te_or1 {t : M Bool} {b : Bool} (h : t s = .ok b s) : mOrT [t] s = .ok b s := h
theorem ev_and {u : M Hd} {r : List (M Hd)} {b c : Bool} (h : Rd m s (.bl b)) (h2 : b = true → Ev (mAndV (u :: r)) s (.bl c)) : Ev (mAndV (m :: u :: r)) s (.bl (b && c)) := by
  obtain ⟨k, h1, h3⟩ := h
  show bnd m _ s = _
  rw [bnd_ok h1, bnd_ok (look_ok h3)]
  show bnd (opt (some b)) _ s = _
  rw [bnd_ok (opt_ok rfl)]
  cases b
  · rfl
  · simp only [if_true, Bool.true_and]; exact h2 rfl
theorem ev_and1 (h : Ev m s d) : Ev (mAndV [m]) s d := h
theorem ev_notv {b : Bool} (h : Rd m s (.bl b)) : Ev (mNotV m) s (.bl (!b)) := by
  obtain ⟨k, h1, h3⟩ := h
  unfold Ev mNotV
  rw [bnd_ok h1, bnd_ok (look_ok h3)]
  rfl
theorem ev_if {t : M Bool} {b : Bool} (h : t s = .ok b s) (h1 : b = true → Ev ma s d) (h2 : b = false → Ev mb s d) : Ev (mIf t ma mb) s d := by
  unfold Ev mIf
  rw [bnd_ok h]
  cases b
  · exact h2 rfl
  · exact h1 rfl
theorem as_nil : mDs false [] s = .ok [] s := rfl
theorem as_cons {r : List (M Hd)} {ds : List D} (h : Ev m s d) (hr : mDs false r s = .ok ds s) : mDs false (m :: r) s = .ok (d :: ds) s := by
  show bnd (mD false m) _ s = _
  have q : mD false m s = .ok d s := by unfold mD; rw [bnd_ok h]; rfl
  rw [bnd_ok q, bnd_ok hr]
  rfl
theorem ev_call {run : List D → List D → OutC} {n : Nat} {a : M (List D)} {ds : List D} (h : a s = .ok ds s) (hl : ds.length = n) (hr : run ds s.hs = .ok d s.hs) : Ev (mCall (fun _ => run) 0 n a) s d := by
  unfold Ev mCall
  rw [bnd_ok h]
  simp only [hl, if_true]
  rw [hr]
  rfl
theorem ev_tup {a : M (List D)} {ds : List D} (h : a s = .ok ds s) (hl : ds.length ≤ 1000) : Ev (mTup a) s (.tup ds) := by
  unfold Ev mTup
  rw [bnd_ok h, if_pos (by unfold lim; omega)]
  rfl
theorem ev_lst {a : M (List D)} {ds : List D} (h : a s = .ok ds s) (hl : ds.length ≤ 1000) : Ev (mLst a) s (.lst ds) := by
  unfold Ev mLst
  rw [bnd_ok h, if_pos (by unfold lim; omega)]
  rfl
/-! statements -/
theorem st_seq {p q : MS} {s s' : Stt} {r : OutS} (h : p s = .nx s') (h2 : q s' = r) : sSeq p q s = r := by unfold sSeq; rw [h]; exact h2
theorem st_if {t : M Bool} {p q : MS} {b : Bool} {r : OutS} (h : t s = .ok b s) (h1 : b = true → p s = r) (h2 : b = false → q s = r) : sIf t p q s = r := by
  unfold sIf
  rw [sM_ok h]
  cases b
  · exact h2 rfl
  · exact h1 rfl
theorem st_drop (h : Ev m s d) : sDrop m s = .nx s := by unfold sDrop; rw [sM_ok h]
theorem st_set {i : Nat} (h : Ev m s d) : sSet i m s = .nx (setS i d s) := by unfold sSet; rw [sM_ok h]; rfl
theorem st_ret (h : Ev m s d) : sRet m s = .rt d s := by unfold sRet; rw [sM_ok h]; rfl
theorem fn_is {N n : Nat} {p : MS} {ds hs : List D} {s : Stt} {d : D} (h : p (startS N n ds hs) = .rt d s) : runFn N n p ds hs = .ok d s.hs := by unfold runFn; rw [h]
theorem fn_is0 {N n : Nat} {p : MS} {ds hs : List D} {s : Stt} (h : p (startS N n ds hs) = .nx s) : runFn N n p ds hs = .ok .non s.hs := by unfold runFn; rw [h]
end
/-- a for loop: what it may come to -/
theorem forGo_post {J : It} {t : Tg} {body : MS} {xs : List D} (S : Nat → Stt → Prop) (R : OutS → Prop) (hat : ∀ i s, S i s → J.at i s = some xs[i]?)
    (hstep : ∀ i x s, xs[i]? = some x → S i s → ∃ s1, t x s = some s1 ∧ ((∃ s2, body s1 = .nx s2 ∧ S (i + 1) s2) ∨ (∃ d s2, body s1 = .rt d s2 ∧ R (.rt d s2)) ∨ ∃ c fs s2, body s1 = .exc c fs s2 ∧ R (.exc c fs s2))) (hend : ∀ s, S xs.length s → R (.nx s)) :
    ∀ n i s, i + n = xs.length → S i s → R (forGo J t body n i s) := by
  intro n
  induction n with
  | zero =>
    intro i s hn hS
    have : i = xs.length := by omega
    subst this
    unfold forGo
    rw [hat _ s hS, List.getElem?_eq_none (Nat.le_refl _)]
    exact hend s hS
  | succ n ih =>
    intro i s hn hS
    have hi : i < xs.length := by omega
    have hx : xs[i]? = some xs[i] := List.getElem?_eq_getElem hi
    obtain ⟨s1, h1, h2⟩ := hstep i _ s hx hS
    unfold forGo
    rw [hat _ s hS, hx]
    simp only [h1]
    rcases h2 with ⟨s2, h3, h4⟩ | ⟨d, s2, h3, h4⟩ | ⟨c, fs, s2, h3, h4⟩
    · simp only [h3]; exact ih (i + 1) s2 (by omega) h4
    · simp only [h3]; exact h4
    · simp only [h3]; exact h4
theorem for_post {mi : M It} {J : It} {t : Tg} {body : MS} {xs : List D} {s s' : Stt} (S : Nat → Stt → Prop) (R : OutS → Prop) (hmi : mi s = .ok J s') (hJ : J.slots.isEmpty = true) (hl : J.len s' = xs.length) (hat : ∀ i s, S i s → J.at i s = some xs[i]?)
    (hstep : ∀ i x s, xs[i]? = some x → S i s → ∃ s1, t x s = some s1 ∧ ((∃ s2, body s1 = .nx s2 ∧ S (i + 1) s2) ∨ (∃ d s2, body s1 = .rt d s2 ∧ R (.rt d s2)) ∨ ∃ c fs s2, body s1 = .exc c fs s2 ∧ R (.exc c fs s2))) (hend : ∀ s, S xs.length s → R (.nx s)) (h0 : S 0 s') :
    R (sFor mi t body s) := by
  unfold sFor
  rw [sM_ok hmi]
  simp only [hJ, if_true]
  exact forGo_post S R hat hstep hend _ 0 s' (by rw [hl]; omega) h0
end Rf

set_option Elab.async false
set_option linter.all false
set_option maxRecDepth 100000
set_option maxHeartbeats 2000000
/-! K03, part P2: what the defs come to. -/
namespace K03
open PySem Rf
theorem e_is_integer (i : Int) (hs : List D) : r_is_integer [.int i] hs = .ok (.bl true) hs := by rfl
theorem e_is_integerN (hs : List D) : r_is_integer [.non] hs = .ok (.bl false) hs := by rfl
theorem e_is_integerS (x : Str) (hs : List D) : r_is_integer [.str x] hs = .ok (.bl false) hs := by rfl
theorem e_is_number (i lo hi : Int) (hs : List D) : r_is_number [.int i, .int lo, .int hi] hs = .ok (.bl (decide (lo ≤ i) && decide (i ≤ hi))) hs := by
  cases h : decide (lo ≤ i) <;> (unfold r_is_number p_is_number; simp [sRet, sM, sIf, sSeq, sDrop, sSet, setS, sPass, sRetN, mAndV, mOrV, mAndT, mOrT, mNotT, mNotV, mTB, mTV, mIf, bnd, Rf.ret, Rf.bad, opt, mCall, callD, mDs, mD, mVar, mC, toD, outC, look, cont, unbox, asBl, asInt, mBin, mChain, m1, mTup, mLst, eqvD, nevD, eqD, leD, geD, ltD, gtD, cmpI, addD, subD, mulD, fdivD, modD, truD, runFn, startS, sRaise, lim, e_is_integer, h])
theorem e_is_numberN (lo hi : Int) (hs : List D) : r_is_number [.non, .int lo, .int hi] hs = .ok (.bl false) hs := by
  unfold r_is_number p_is_number; simp [sRet, sM, sIf, sSeq, sDrop, sSet, setS, sPass, sRetN, mAndV, mOrV, mAndT, mOrT, mNotT, mNotV, mTB, mTV, mIf, bnd, Rf.ret, Rf.bad, opt, mCall, callD, mDs, mD, mVar, mC, toD, outC, look, cont, unbox, asBl, asInt, mBin, mChain, m1, mTup, mLst, eqvD, nevD, eqD, leD, geD, ltD, gtD, cmpI, addD, subD, mulD, fdivD, modD, truD, runFn, startS, sRaise, lim, e_is_integerN]
theorem e_is_numberS (x : Str) (lo hi : Int) (hs : List D) : r_is_number [.str x, .int lo, .int hi] hs = .ok (.bl false) hs := by
  unfold r_is_number p_is_number; simp [sRet, sM, sIf, sSeq, sDrop, sSet, setS, sPass, sRetN, mAndV, mOrV, mAndT, mOrT, mNotT, mNotV, mTB, mTV, mIf, bnd, Rf.ret, Rf.bad, opt, mCall, callD, mDs, mD, mVar, mC, toD, outC, look, cont, unbox, asBl, asInt, mBin, mChain, m1, mTup, mLst, eqvD, nevD, eqD, leD, geD, ltD, gtD, cmpI, addD, subD, mulD, fdivD, modD, truD, runFn, startS, sRaise, lim, e_is_integerS]
theorem e_check_number (p : Str) (i lo hi : Int) (hs : List D) (h1 : lo ≤ i) (h2 : i ≤ hi) : r_check_number [.str p, .int i, .int lo, .int hi] hs = .ok .non hs := by
  unfold r_check_number p_check_number; simp [sRet, sM, sIf, sSeq, sDrop, sSet, setS, sPass, sRetN, mAndV, mOrV, mAndT, mOrT, mNotT, mNotV, mTB, mTV, mIf, bnd, Rf.ret, Rf.bad, opt, mCall, callD, mDs, mD, mVar, mC, toD, outC, look, cont, unbox, asBl, asInt, mBin, mChain, m1, mTup, mLst, eqvD, nevD, eqD, leD, geD, ltD, gtD, cmpI, addD, subD, mulD, fdivD, modD, truD, runFn, startS, sRaise, lim, e_is_number, h1, h2]
def fD (m t : Int) : D := .ins 3 [("many", .int m), ("ticks", .int t)]
theorem e_check_faults (m t : Int) (hs : List D) : r_check_faults [fD m t] hs = .ok .non hs := by rfl
theorem e_many (m t : Int) (e : M Hd) (s : Stt) (h : e s = .ok (.d (fD m t)) s) : mFld gd "many" e s = .ok (.d (.int m)) s := by
  unfold mFld bnd; rw [h]; rfl
theorem e_ticks (m t : Int) (e : M Hd) (s : Stt) (h : e s = .ok (.d (fD m t)) s) : mFld gd "ticks" e s = .ok (.d (.int t)) s := by
  unfold mFld bnd; rw [h]; rfl
theorem e_Faults (m t : Int) (hs : List D) (h1 : 0 ≤ m) (h2 : m ≤ 999) (h3 : 1 ≤ t) (h4 : t ≤ 99) : i_Faults [.int m, .int t] hs = .ok [("many", .int m), ("ticks", .int t)] hs := by
  have c1 := e_check_number "many" m 0 999 hs h1 h2
  have c2 := e_check_number "ticks" t 1 99 hs h3 h4
  unfold i_Faults runI p_Faults_init startI
  simp [sRet, sM, sIf, sSeq, sDrop, sSet, setS, sPass, sRetN, mAndV, mOrV, mAndT, mOrT, mNotT, mNotV, mTB, mTV, mIf, bnd, Rf.ret, Rf.bad, opt, mCall, callD, mDs, mD, mVar, mC, toD, outC, look, cont, unbox, asBl, asInt, mBin, mChain, m1, mTup, mLst, eqvD, nevD, eqD, leD, geD, ltD, gtD, cmpI, addD, subD, mulD, fdivD, modD, truD, runFn, startS, sRaise, lim, c1, c2]
  rfl
theorem e_Faults_eq (m t : Int) (hs : List D) : r_Faults_eq [fD m t, fD m t] hs = .ok (.bl true) hs := by
  have : r_Faults_eq [fD m t, fD m t] hs = .ok (.bl (m == m && (t == t && true))) hs := by rfl
  rw [this]; simp
theorem e_most_within (k m t : Int) (hs : List D) (h1 : 1 ≤ k) (h2 : k ≤ 999) (h3 : 1 ≤ t) (h4 : t ≤ 99) (h5 : 0 ≤ m) (h6 : m ≤ 999) : r_most_within [.int k, fD m t] hs = .ok (.int ((k + t - 1) / t * m)) hs := by
  have c1 := e_check_number "ticks" k 1 999 hs h1 h2
  have c2 := e_check_faults m t hs
  have f1 := fun s h => e_ticks m t (mVar 1) s h
  have f2 := fun s h => e_many m t (mVar 1) s h
  unfold r_most_within p_most_within
  simp [sRet, sM, sIf, sSeq, sDrop, sSet, setS, sPass, sRetN, mAndV, mOrV, mAndT, mOrT, mNotT, mNotV, mTB, mTV, mIf, bnd, Rf.ret, Rf.bad, opt, mCall, callD, mDs, mD, mVar, mC, toD, outC, look, cont, unbox, asBl, asInt, mBin, mChain, m1, mTup, mLst, eqvD, nevD, eqD, leD, geD, ltD, gtD, cmpI, addD, subD, mulD, fdivD, modD, truD, runFn, startS, sRaise, lim, c1, c2, f1, f2, show 0 < t by omega, show t < 1073741824 by omega, show -18446744073709551616 < m by omega, show m < 18446744073709551616 by omega]
theorem e_least_most (k m t : Int) (hs : List D) (h1 : 1 ≤ k) (h2 : k ≤ 999) (h3 : 1 ≤ t) (h4 : t ≤ 99) (h5 : 0 ≤ m) (h6 : m ≤ 999) : r_least_most [.int k, fD m t] hs = .ok (.int ((k + t - 1) / t * m)) hs := by
  have c := e_most_within k m t hs h1 h2 h3 h4 h5 h6
  unfold r_least_most p_least_most
  simp [sRet, sM, sIf, sSeq, sDrop, sSet, setS, sPass, sRetN, mAndV, mOrV, mAndT, mOrT, mNotT, mNotV, mTB, mTV, mIf, bnd, Rf.ret, Rf.bad, opt, mCall, callD, mDs, mD, mVar, mC, toD, outC, look, cont, unbox, asBl, asInt, mBin, mChain, m1, mTup, mLst, eqvD, nevD, eqD, leD, geD, ltD, gtD, cmpI, addD, subD, mulD, fdivD, modD, truD, runFn, startS, sRaise, lim, c]
end K03

set_option Elab.async false
set_option linter.all false
set_option maxRecDepth 100000
set_option maxHeartbeats 2000000
/-! K03, part P3: windows. -/
namespace K03
open PySem Rf
def iD (xs : List Int) : List D := xs.map D.int
inductive Sq : D → List Int → Prop
  | lst (xs : List Int) : Sq (.lst (iD xs)) xs
  | tup (xs : List Int) : Sq (.tup (iD xs)) xs
theorem iD_len (xs : List Int) : (iD xs).length = xs.length := List.length_map _
theorem mem_iD {x : D} {xs : List Int} (h : x ∈ iD xs) : ∃ b, b ∈ xs ∧ x = .int b := by
  obtain ⟨b, h1, h2⟩ := List.mem_map.mp h
  exact ⟨b, h1, h2.symm⟩
def fI (p : Int → Bool) : D → Option D
  | .int b => if p b then some (.int b) else none
  | _ => none
theorem fI_map (p : Int → Bool) : ∀ xs : List Int, (iD xs).filterMap (fI p) = iD (xs.filter p)
  | [] => rfl
  | b :: r => by
    have ih := fI_map p r
    unfold iD at ih ⊢
    rw [List.map_cons, List.filterMap_cons, List.filter_cons]
    cases h : p b
    · simp only [fI, h, Bool.false_eq_true, if_false]; exact ih
    · simp only [fI, h, if_true, List.map_cons]; rw [ih]
/-- what stands within -/
def win (xs : List Int) (now t : Int) : List Int := xs.filter fun b => decide (now - t < b)
def TnB (c : M Bool) (e : M Hd) (s1 : Stt) (b : Bool) (y : D) : Prop := c s1 = .ok b s1 ∧ (b = true → mD false e s1 = .ok y s1)
theorem tn_if {c : M Bool} {e : M Hd} {s1 : Stt} {b : Bool} {y : D} (h : c s1 = .ok b s1) (q : b = true → mD false e s1 = .ok y s1) : Tn c e s1 (if b = true then some y else none) := by
  cases b
  · exact .no h
  · exact .yes h (q rfl)
theorem e_within {d : D} {xs : List Int} (hd : Sq d xs) (hl : xs.length ≤ 1000) (now t : Int) (hs : List D) : r_within [d, .int now, .int t] hs = .ok (.tup (iD (win xs now t))) hs := by
  have step : ∀ d : D, ∀ J, iH (mVar 0) ⟨[.val d, .val (.int now), .val (.int t), .no], hs, []⟩ = .ok J ⟨[.val d, .val (.int now), .val (.int t), .no], hs, []⟩ → lcOk J [3] ⟨[.val d, .val (.int now), .val (.int t), .no], hs, []⟩ = true → J.len ⟨[.val d, .val (.int now), .val (.int t), .no], hs, []⟩ = xs.length →
      (∀ acc i, J.at i (blkS [3] acc ⟨[.val d, .val (.int now), .val (.int t), .no], hs, []⟩) = some (iD xs)[i]?) → r_within [d, .int now, .int t] hs = .ok (.tup (iD (win xs now t))) hs := fun d J h1 h2 h3 h4 => by
    have q := lc_is (t := tgName 3) (c := mTB (mBin gtD (mVar 3) (mBin subD (mVar 1) (mVar 2)))) (e := mVar 3) (fI fun b => decide (now - t < b)) h1 h2 (h3.trans (iD_len xs).symm) (by rw [iD_len]; exact hl) (by simp) h4 (fun acc x hx => by
      obtain ⟨b, _, rfl⟩ := mem_iD hx
      exact ⟨⟨[.val d, .val (.int now), .val (.int t), .val (.int b)], hs, [.lst acc]⟩, rfl, rfl, rfl, tn_if (te_tb (Ev.rd (rd_bin (rv rfl rfl) (Ev.rd (rd_bin (rv rfl rfl) (rv rfl rfl) rfl) rfl) rfl) rfl)) fun _ => rfl⟩)
    rw [fI_map] at q
    exact fn_is (N := 4) (n := 3) (p := p_within) (s := ⟨[.val d, .val (.int now), .val (.int t), .no], hs, []⟩) (st_ret (rd_m1 (Ev.rd q rfl) rfl))
  cases hd with
  | lst xs => exact step _ _ rfl rfl (iD_len xs) fun acc i => rfl
  | tup xs => exact step _ _ rfl rfl (iD_len xs) fun acc i => rfl
/-- enumerate -/
def enL (xs : List Int) : List D := (List.range xs.length).map fun i => D.tup [.int (i : Nat), .int (xs.getD i 0)]
theorem en_at (xs : List Int) (i : Nat) : ((iD xs)[i]?).map (fun x => D.tup [.int (i : Nat), x]) = (enL xs)[i]? := by
  unfold enL iD
  rw [List.getElem?_map, List.getElem?_map]
  by_cases h : i < xs.length
  · rw [List.getElem?_eq_getElem h, List.getElem?_range h]
    simp [h]
  · rw [List.getElem?_eq_none (by omega), List.getElem?_eq_none (by simpa using h)]
    rfl
theorem cut_to {α : Type} (xs : List D) (k : Nat) (h : k ≤ xs.length) : cutD xs none (some (k : Int)) = xs.take k := by
  unfold cutD
  rw [HT.sIx_none, HT.sIx_nat, List.drop_zero, Nat.min_eq_left h]
  simp
theorem take_iD (xs : List Int) (k : Nat) : (iD xs).take k = iD (xs.take k) := by unfold iD; rw [List.map_take]
/-- how many stand within at the i-th -/
def cntAt (xs : List Int) (t : Int) (i : Nat) : Nat := (win (xs.take (i + 1)) (xs.getD i 0) t).length
theorem lstO_sq {d : D} {xs : List Int} (hd : Sq d xs) : lstO d = some (.lst (iD xs)) := by cases hd <;> rfl
theorem sq_ub {d : D} {xs : List Int} (hd : Sq d xs) (s : Stt) : unbox d s = some d := by cases hd <;> rfl
/-- list(falls)[:place + 1] -/
theorem e_upto {d : D} {xs : List Int} (hd : Sq d xs) {v w : Nat} {s : Stt} {i : Nat} (hi : i < xs.length) (h1 : Rd (mVar v) s d) (h2 : Rd (mVar w) s (.int (i : Nat))) :
    Ev (mSlice (mVal (n1 lstO (mVar v))) none (some (mBin addD (mVar w) (mC (.int 1))))) s (.lst (iD (xs.take (i + 1)))) := by
  refine rd_slice (Ev.rd (ev_n1 h1 (lstO_sq hd)) rfl) part_no (part_of (i := ((i + 1 : Nat) : Int)) (Ev.rd (rd_bin h2 (rc rfl) rfl) rfl)) ?_
  show some (D.lst (cutD (iD xs) none (some ((i + 1 : Nat) : Int)))) = _
  rw [cut_to (α := Nat) _ _ (by rw [iD_len]; omega), take_iD]
end K03

set_option Elab.async false
set_option linter.all false
set_option maxRecDepth 100000
set_option maxHeartbeats 2000000
/-! K03, part P4: falls looked at, windows counted. -/
namespace K03
open PySem Rf
def upF : Int → List Int → Bool
  | _, [] => true
  | l, x :: r => decide (l ≤ x) && decide (x ≤ 99999) && upF x r
theorem e_is_row {d : D} {xs : List Int} (hd : Sq d xs) (hs : List D) : r_is_row [d] hs = .ok (.bl true) hs := by cases hd <;> rfl
theorem e_enm {d : D} {xs : List Int} (hd : Sq d xs) {m : M Hd} {s : Stt} (h : Ev m s d) : ∃ J, iEnm m s = .ok J s ∧ J.slots.isEmpty = true ∧ (∀ s', J.len s' = (enL xs).length) ∧ (∀ s' i, J.at i s' = some (enL xs)[i]?) ∧ J.slots = [] := by
  have hl : (enL xs).length = xs.length := by unfold enL; rw [List.length_map, List.length_range]
  have hi := iD_len xs
  cases hd with
  | lst xs =>
    refine ⟨.enm false (.d (.lst (iD xs))), ?_, rfl, fun s' => hi.trans hl.symm, fun s' i => ?_, rfl⟩
    · unfold iEnm; rw [bnd_ok h]; rfl
    · rw [← en_at]; rfl
  | tup xs =>
    refine ⟨.enm true (.d (.tup (iD xs))), ?_, rfl, fun s' => hi.trans hl.symm, fun s' i => ?_, rfl⟩
    · unfold iEnm; rw [bnd_ok h]; rfl
    · rw [← en_at]; rfl
theorem en_get {xs : List Int} {i : Nat} {x : D} (h : (enL xs)[i]? = some x) : ∃ hi : i < xs.length, x = .tup [.int (i : Nat), .int xs[i]] := by
  rw [← en_at] at h
  obtain ⟨y, h1, h2⟩ := Option.map_eq_some_iff.mp h
  unfold iD at h1
  rw [List.getElem?_map] at h1
  obtain ⟨z, h3, h4⟩ := Option.map_eq_some_iff.mp h1
  obtain ⟨hi, h5⟩ := List.getElem?_eq_some_iff.mp h3
  exact ⟨hi, by rw [← h2, ← h4, ← h5]⟩
theorem e_check_falls {d : D} {xs : List Int} (hd : Sq d xs) (hu : upF 0 xs = true) (hs : List D) : r_check_falls [d] hs = .ok .non hs := by
  have row := e_is_row hd hs
  have main : ∃ s2, p_check_falls ⟨[.val d, .no, .no, .no], hs, []⟩ = .nx s2 ∧ s2.hs = hs := by
    obtain ⟨J, j1, j2, j3, j4, _⟩ := e_enm hd (m := mVar 0) (s := ⟨[.val d, .val (.int 0), .no, .no], hs, []⟩) rfl
    have loop := for_post (t := tgTup 2 (tgsCons (tgName 2) (tgsCons (tgName 3) tgsNil))) (body := sSeq (sIf (mNotT (mTV (mCall (fun _ => r_is_number) 0 3 (mDs false [(mVar 3), (mVar 1), (mC (.int 99999))])))) (sRaise 1 ["part", "place"] (mDs false [(mC (.str "falls")), (mVar 2)])) sPass) (sSet 1 (mVar 3)))
      (fun i s => ∃ l a b, s = ⟨[.val d, .val (.int l), a, b], hs, []⟩ ∧ upF l (xs.drop i) = true) (fun r => ∃ s2, r = .nx s2 ∧ s2.hs = hs) j1 j2 (j3 _) (fun i s _ => j4 s i)
      (fun i x s hx ⟨l, a, b, e, h⟩ => by
        obtain ⟨hi, rfl⟩ := en_get hx
        subst e
        rw [List.drop_eq_getElem_cons hi] at h
        obtain ⟨h1, h3⟩ := (Bool.and_eq_true _ _).mp h
        obtain ⟨h1, h2⟩ := (Bool.and_eq_true _ _).mp h1
        refine ⟨⟨[.val d, .val (.int l), .val (.int (i : Nat)), .val (.int xs[i])], hs, []⟩, rfl, .inl ⟨⟨[.val d, .val (.int xs[i]), .val (.int (i : Nat)), .val (.int xs[i])], hs, []⟩, ?_, xs[i], _, _, rfl, h3⟩⟩
        have c := e_is_number xs[i] l 99999 hs
        rw [h1, h2] at c
        exact st_seq (st_if (te_not (te_tv (Ev.rd (ev_call (as_cons (evv rfl) (as_cons (evv rfl) (as_cons evc as_nil))) rfl c) rfl) rfl)) (fun z => by cases z) fun _ => rfl) rfl)
      (fun s ⟨l, a, b, e, h⟩ => ⟨s, rfl, by rw [e]⟩) ⟨0, _, _, rfl, hu⟩
    obtain ⟨s2, l1, l2⟩ := loop
    refine ⟨s2, ?_, l2⟩
    exact st_seq (st_if (te_not (te_tv (Ev.rd (ev_call (as_cons (evv rfl) as_nil) rfl row) rfl) rfl)) (fun z => by cases z) fun _ => rfl) (st_seq (st_set evc) l1)
  obtain ⟨s2, h1, h2⟩ := main
  exact (fn_is0 (N := 4) (n := 1) (p := p_check_falls) (ds := [d]) (hs := hs) h1).trans (by rw [h2])
/-! are_within -/
theorem filterMap_some {α β : Type} (f : α → β) : ∀ l : List α, l.filterMap (fun x => some (f x)) = l.map f
  | [] => rfl
  | x :: r => by rw [List.filterMap_cons_some (f := fun x => some (f x)) (b := f x) rfl, filterMap_some f r]; rfl
theorem bls_map : ∀ l : List Bool, blsOf (l.map D.bl) = some l
  | [] => rfl
  | b :: r => by show (blsOf (r.map D.bl)).map _ = _; rw [bls_map r]; rfl
def fB (g : Nat → Bool) : D → Option D
  | .tup [.int i, _] => some (.bl (g i.toNat))
  | _ => none
theorem fB_en (g : Nat → Bool) (xs : List Int) : (enL xs).filterMap (fB g) = ((List.range xs.length).map g).map D.bl := by
  unfold enL
  rw [List.filterMap_map, List.map_map]
  show (List.range xs.length).filterMap (fun i : Nat => some (D.bl (g (Int.toNat (i : Nat))))) = _
  rw [filterMap_some]
  rfl
def areB (xs : List Int) (t m : Int) : Bool := ((List.range xs.length).map fun i => decide ((cntAt xs t i : Int) ≤ m)).all id
theorem e_are_within {d : D} {xs : List Int} (hd : Sq d xs) (hu : upF 0 xs = true) (hl : xs.length ≤ 900) (m t : Int) (hs : List D) : r_are_within [fD m t, d] hs = .ok (.bl (areB xs t m)) hs := by
  obtain ⟨J, j1, j2, j3, j4, j5⟩ := e_enm hd (m := mVar 1) (s := ⟨[.val (fD m t), .val d, .no, .no], hs, []⟩) rfl
  have hel : (enL xs).length = xs.length := by unfold enL; rw [List.length_map, List.length_range]
  have q := lc_is (t := tgTup 2 (tgsCons (tgName 2) (tgsCons (tgName 3) tgsNil))) (c := mYes) (e := mBin leD (m1 lenO (mCall (fun _ => r_within) 0 3 (mDs false [(mSlice (mVal (n1 lstO (mVar 1))) none (some (mBin addD (mVar 2) (mC (.int 1))))), (mVar 3), (mFld gd "ticks" (mVar 0))]))) (mFld gd "many" (mVar 0))) (vs := [2, 3])
    (fB fun i => decide ((cntAt xs t i : Int) ≤ m)) j1 (by unfold lcOk; rw [j5]; rfl) (j3 _) (by rw [hel]; omega) (by simp) (fun acc i => j4 _ i) (fun acc x hx => by
      obtain ⟨i, hx⟩ := List.getElem?_of_mem hx
      obtain ⟨hi, rfl⟩ := en_get hx
      refine ⟨⟨[.val (fD m t), .val d, .val (.int (i : Nat)), .val (.int xs[i])], hs, [.lst acc]⟩, rfl, rfl, rfl, .yes rfl ?_⟩
      have c := e_within (.lst (xs.take (i + 1))) (by rw [List.length_take]; omega) xs[i] t hs
      have w : Ev (mBin leD (m1 lenO (mCall (fun _ => r_within) 0 3 (mDs false [(mSlice (mVal (n1 lstO (mVar 1))) none (some (mBin addD (mVar 2) (mC (.int 1))))), (mVar 3), (mFld gd "ticks" (mVar 0))]))) (mFld gd "many" (mVar 0))) ⟨[.val (fD m t), .val d, .val (.int (i : Nat)), .val (.int xs[i])], hs, [.lst acc]⟩ (.bl (decide ((cntAt xs t i : Int) ≤ m))) := by
        refine rd_bin (x := .int (cntAt xs t i : Int)) (Ev.rd (rd_m1 (Ev.rd (ev_call (as_cons (e_upto hd hi (rv rfl (sq_ub hd _)) (rv rfl rfl)) (as_cons (evv rfl) (as_cons (rd_fld (c := 3) (rv rfl rfl) rfl rfl) as_nil))) rfl c) rfl) ?_) rfl) (Ev.rd (rd_fld (c := 3) (rv rfl rfl) rfl rfl) rfl) rfl
        show some (D.int ((iD _).length : Nat)) = _
        rw [iD_len]
        unfold cntAt
        rw [List.getD_eq_getElem?_getD, List.getElem?_eq_getElem hi]
        rfl
      unfold mD
      rw [bnd_ok w]
      rfl)
  rw [fB_en] at q
  have c1 := e_check_faults m t hs
  have c2 := e_check_falls hd hu hs
  refine fn_is (N := 4) (n := 2) (p := p_are_within) (s := ⟨[.val (fD m t), .val d, .no, .no], hs, []⟩) ?_
  refine st_seq (st_drop (ev_call (as_cons (evv rfl) as_nil) rfl c1)) (st_seq (st_drop (ev_call (as_cons (evv rfl) as_nil) rfl c2)) (st_ret (rd_m1 (Ev.rd q rfl) ?_)))
  show (some (((List.range xs.length).map fun i => decide ((cntAt xs t i : Int) ≤ m)).map D.bl)).bind (fun xs => (blsOf xs).map fun bs => D.bl (bs.all id)) = _
  rw [Option.bind_some, bls_map]
  rfl
end K03

set_option Elab.async false
set_option linter.all false
set_option maxRecDepth 100000
set_option maxHeartbeats 2000000
/-! K03, part P5: the first beyond, the law's own counts. -/
namespace K03
open PySem Rf
def fbF (xs : List Int) (t most : Int) : Nat → Nat → Option Nat
  | 0, _ => none
  | n + 1, i => if decide (most < (cntAt xs t i : Int)) = true then some i else fbF xs t most n (i + 1)
def oN : Option Nat → D
  | some i => .int (i : Nat)
  | none => .non
theorem e_cnt {d : D} {xs : List Int} (hd : Sq d xs) (hl : xs.length ≤ 900) {i : Nat} (hi : i < xs.length) {v p k t : Nat} {tk : Int} {s : Stt} (h1 : s.σ[v]? = some (.val d)) (h2 : s.σ[p]? = some (.val (.int (i : Nat)))) (h3 : s.σ[k]? = some (.val (.int xs[i]))) (h4 : s.σ[t]? = some (.val (.int tk))) :
    Ev (m1 lenO (mCall (fun _ => r_within) 0 3 (mDs false [(mSlice (mVal (n1 lstO (mVar v))) none (some (mBin addD (mVar p) (mC (.int 1))))), (mVar k), (mVar t)]))) s (.int (cntAt xs tk i : Int)) := by
  have c := e_within (.lst (xs.take (i + 1))) (by rw [List.length_take]; omega) xs[i] tk s.hs
  refine rd_m1 (Ev.rd (ev_call (as_cons (e_upto hd hi (rv h1 (sq_ub hd _)) (rv h2 rfl)) (as_cons (evv h3) (as_cons (evv h4) as_nil))) rfl c) rfl) ?_
  show some (D.int ((iD _).length : Nat)) = _
  rw [iD_len]
  unfold cntAt
  rw [List.getD_eq_getElem?_getD, List.getElem?_eq_getElem hi]
  rfl
theorem e_first_beyond {d : D} {xs : List Int} (hd : Sq d xs) (hu : upF 0 xs = true) (hl : xs.length ≤ 900) (most t : Int) (hs : List D) (m1 : 0 ≤ most) (m2 : most ≤ 99) (t1 : 1 ≤ t) (t2 : t ≤ 99) : r_first_beyond [.int most, .int t, d] hs = .ok (oN (fbF xs t most xs.length 0)) hs := by
  have hel : (enL xs).length = xs.length := by unfold enL; rw [List.length_map, List.length_range]
  obtain ⟨J, j1, j2, j3, j4, j5⟩ := e_enm hd (m := mVar 2) (s := ⟨[.val (.int most), .val (.int t), .val d, .no, .no], hs, []⟩) rfl
  have loop := for_post (t := tgTup 2 (tgsCons (tgName 3) (tgsCons (tgName 4) tgsNil))) (body := sIf (mTB (mBin gtD (Rf.m1 lenO (mCall (fun _ => r_within) 0 3 (mDs false [(mSlice (mVal (n1 lstO (mVar 2))) none (some (mBin addD (mVar 3) (mC (.int 1))))), (mVar 4), (mVar 1)]))) (mVar 0))) (sRet (mVar 3)) sPass)
    (fun i s => ∃ a b, s = ⟨[.val (.int most), .val (.int t), .val d, a, b], hs, []⟩ ∧ fbF xs t most xs.length 0 = fbF xs t most (xs.length - i) i)
    (fun r => (∃ s2, r = .nx s2 ∧ s2.hs = hs ∧ fbF xs t most xs.length 0 = none) ∨ ∃ i s2, r = .rt (.int (i : Nat)) s2 ∧ s2.hs = hs ∧ fbF xs t most xs.length 0 = some i) j1 j2 (j3 _) (fun i s _ => j4 s i)
    (fun i x s hx ⟨a, b, e, h⟩ => by
      obtain ⟨hi, rfl⟩ := en_get hx
      subst e
      refine ⟨⟨[.val (.int most), .val (.int t), .val d, .val (.int (i : Nat)), .val (.int xs[i])], hs, []⟩, rfl, ?_⟩
      have hk : xs.length - i = (xs.length - (i + 1)) + 1 := by omega
      have tst := te_tb (Ev.rd (rd_bin (op := gtD) (Ev.rd (e_cnt hd hl hi (v := 2) (p := 3) (k := 4) (t := 1) (tk := t) (s := ⟨[.val (.int most), .val (.int t), .val d, .val (.int (i : Nat)), .val (.int xs[i])], hs, []⟩) rfl rfl rfl rfl) rfl) (rv (i := 0) rfl rfl) rfl) rfl)
      rw [hk] at h
      rw [show fbF xs t most (xs.length - (i + 1) + 1) i = if decide (most < (cntAt xs t i : Int)) = true then some i else fbF xs t most (xs.length - (i + 1)) (i + 1) from rfl] at h
      cases q : decide (most < (cntAt xs t i : Int)) with
      | true =>
        rw [q] at tst
        rw [q, if_pos rfl] at h
        exact .inr (.inl ⟨_, _, st_if tst (fun _ => st_ret (evv rfl)) (fun z => by cases z), .inr ⟨i, _, rfl, rfl, h⟩⟩)
      | false =>
        rw [q] at tst
        rw [q, if_neg (by simp)] at h
        exact .inl ⟨_, st_if tst (fun z => by cases z) (fun _ => rfl), _, _, rfl, h⟩)
    (fun s ⟨a, b, e, h⟩ => .inl ⟨s, rfl, by rw [e], by rw [h, hel, Nat.sub_self]; rfl⟩) ⟨_, _, rfl, rfl⟩
  have c1 := e_check_number "most" most 0 99 hs m1 m2
  have c2 := e_check_number "ticks" t 1 99 hs t1 t2
  have c3 := e_check_falls hd hu hs
  have main : ∃ s2, p_first_beyond ⟨[.val (.int most), .val (.int t), .val d, .no, .no], hs, []⟩ = .rt (oN (fbF xs t most xs.length 0)) s2 ∧ s2.hs = hs := by
    have pre : ∀ {r}, sSeq (sFor (iEnm (mVar 2)) (tgTup 2 (tgsCons (tgName 3) (tgsCons (tgName 4) tgsNil))) (sIf (mTB (mBin gtD (Rf.m1 lenO (mCall (fun _ => r_within) 0 3 (mDs false [(mSlice (mVal (n1 lstO (mVar 2))) none (some (mBin addD (mVar 3) (mC (.int 1))))), (mVar 4), (mVar 1)]))) (mVar 0))) (sRet (mVar 3)) sPass)) (sRet (mC .non)) ⟨[.val (.int most), .val (.int t), .val d, .no, .no], hs, []⟩ = r →
        p_first_beyond ⟨[.val (.int most), .val (.int t), .val d, .no, .no], hs, []⟩ = r := fun h =>
      st_seq (st_drop (ev_call (as_cons evc (as_cons (evv rfl) (as_cons evc (as_cons evc as_nil)))) rfl c1)) (st_seq (st_drop (ev_call (as_cons evc (as_cons (evv rfl) (as_cons evc (as_cons evc as_nil)))) rfl c2)) (st_seq (st_drop (ev_call (as_cons (evv rfl) as_nil) rfl c3)) h))
    rcases loop with ⟨s2, l1, l2, l3⟩ | ⟨i, s2, l1, l2, l3⟩
    · exact ⟨s2, pre (by rw [l3]; exact st_seq l1 rfl), l2⟩
    · exact ⟨s2, pre (by rw [l3]; unfold sSeq; rw [l1]; rfl), l2⟩
  obtain ⟨s2, h1, h2⟩ := main
  exact (fn_is (N := 5) (n := 3) (p := p_first_beyond) (ds := [.int most, .int t, d]) (hs := hs) h1).trans (by rw [h2])
/-! _law_most -/
def cw (xs : List Int) (t a : Int) : Int := ((xs.filter fun b => decide (a ≤ b) && decide (b < a + t)).length : Nat)
def lm (xs : List Int) (t : Int) : Int := maxL (0 :: xs.map (cw xs t))
theorem ints_map : ∀ l : List Int, intsOf (l.map D.int) = some l
  | [] => rfl
  | b :: r => by show (intsOf (r.map D.int)).map _ = _; rw [ints_map r]; rfl
theorem e_app {i : Nat} {ys : List D} {y : D} {ms : M (List D)} {s : Stt} (h : s.σ[i]? = some (.own (.lst ys))) (ha : ms s = .ok [y] s) (hl : ys.length ≤ 1000) : mMut isLst appD (mVar i) ms s = .ok (.d .non) { s with σ := s.σ.set i (.own (.lst (ys ++ [y]))) } := by
  have c : cont (.own i) s = some (.lst ys) := by unfold cont; simp only [h]
  have v : mVar i s = .ok (.own i) s := by unfold mVar; rw [h]
  unfold mMut
  rw [bnd_ok v, bnd_ok (look_ok c)]
  show bnd ms _ s = _
  rw [bnd_ok ha, bnd_ok (look_ok c), bnd_ok (opt_ok (show appD (.lst ys) [y] = some (.lst (ys ++ [y]), .non) from if_pos (by unfold lim; omega)))]
  have w : mWr (.own i) (.lst (ys ++ [y])) s = .ok () { s with σ := s.σ.set i (.own (.lst (ys ++ [y]))) } := by
    unfold mWr wr
    simp only [h]
  rw [bnd_ok w]
  rfl
theorem e_law_most {d : D} {xs : List Int} (hd : Sq d xs) (hl : xs.length ≤ 900) (t : Int) (hs : List D) : r__law_most [d, .int t] hs = .ok (.int (lm xs t)) hs := by
  have hfrz : ∃ J, iH (mFrz (mVar 0)) ⟨[.val d, .val (.int t), .own (.lst [.int 0]), .no, .no], hs, []⟩ = .ok J ⟨[.val d, .val (.int t), .own (.lst [.int 0]), .no, .no], hs, []⟩ ∧ J.slots.isEmpty = true ∧ (∀ s', J.len s' = (iD xs).length) ∧ (∀ s' i, J.at i s' = some (iD xs)[i]?) := by
    cases hd with
    | lst xs => exact ⟨_, rfl, rfl, fun _ => rfl, fun _ _ => rfl⟩
    | tup xs => exact ⟨_, rfl, rfl, fun _ => rfl, fun _ _ => rfl⟩
  have hih : ∀ s : Stt, s.σ[0]? = some (.val d) → ∃ J, iH (mVar 0) s = .ok J s ∧ J.slots = [] ∧ (∀ s', J.len s' = (iD xs).length) ∧ (∀ s' i, J.at i s' = some (iD xs)[i]?) := fun s h => by
    have v := evv (d := d) (i := 0) h
    cases hd with
    | lst xs => exact ⟨.lst (.d (.lst (iD xs))), by unfold iH; rw [bnd_ok v]; rfl, rfl, fun _ => rfl, fun _ _ => rfl⟩
    | tup xs => exact ⟨.tup (.d (.tup (iD xs))), by unfold iH; rw [bnd_ok v]; rfl, rfl, fun _ => rfl, fun _ _ => rfl⟩
  obtain ⟨J, j1, j2, j3, j4⟩ := hfrz
  have loop := for_post (t := tgName 3) (body := sDrop (mMut isLst appD (mVar 2) (mDs false [(m1 lenO (mVal (nLc (iH (mVar 0)) (tgName 4) (mTB (mChain leD ltD (mVar 3) (mVar 4) (mBin addD (mVar 3) (mVar 1)))) (mVar 4) [4])))])))
    (fun i s => ∃ a, s = ⟨[.val d, .val (.int t), .own (.lst ((0 :: (xs.take i).map (cw xs t)).map D.int)), a, .no], hs, []⟩) (fun r => ∃ s2 a, r = .nx s2 ∧ s2 = ⟨[.val d, .val (.int t), .own (.lst ((0 :: xs.map (cw xs t)).map D.int)), a, .no], hs, []⟩) j1 j2 (j3 _) (fun i s _ => j4 s i)
    (fun i x s hx ⟨a, e⟩ => by
      subst e
      unfold iD at hx
      rw [List.getElem?_map] at hx
      obtain ⟨z, h3, h4⟩ := Option.map_eq_some_iff.mp hx
      obtain ⟨hi, h5⟩ := List.getElem?_eq_some_iff.mp h3
      subst h4
      refine ⟨⟨[.val d, .val (.int t), .own (.lst ((0 :: (xs.take i).map (cw xs t)).map D.int)), .val (.int z), .no], hs, []⟩, rfl, .inl ⟨⟨[.val d, .val (.int t), .own (.lst ((0 :: (xs.take (i + 1)).map (cw xs t)).map D.int)), .val (.int z), .no], hs, []⟩, ?_, _, rfl⟩⟩
      · obtain ⟨K, k1, k2, k3, k4⟩ := hih ⟨[.val d, .val (.int t), .own (.lst ((0 :: (xs.take i).map (cw xs t)).map D.int)), .val (.int z), .no], hs, []⟩ rfl
        have q := lc_is (t := tgName 4) (c := mTB (mChain leD ltD (mVar 3) (mVar 4) (mBin addD (mVar 3) (mVar 1)))) (e := mVar 4) (vs := [4]) (fI fun b => decide (z ≤ b) && decide (b < z + t)) k1 (by unfold lcOk; rw [k2]; rfl) (k3 _) (by rw [iD_len]; omega) (by simp) (fun acc i => k4 _ i) (fun acc x hx => by
          obtain ⟨b, _, rfl⟩ := mem_iD hx
          exact ⟨⟨[.val d, .val (.int t), .own (.lst ((0 :: (xs.take i).map (cw xs t)).map D.int)), .val (.int z), .val (.int b)], hs, [.lst acc]⟩, rfl, rfl, rfl, tn_if (te_tb (Ev.rd (ev_chain (rv rfl rfl) (rv rfl rfl) (Ev.rd (rd_bin (rv rfl rfl) (rv rfl rfl) rfl) rfl) rfl rfl) rfl)) fun _ => rfl⟩)
        rw [fI_map] at q
        have ar : mDs false [(m1 lenO (mVal (nLc (iH (mVar 0)) (tgName 4) (mTB (mChain leD ltD (mVar 3) (mVar 4) (mBin addD (mVar 3) (mVar 1)))) (mVar 4) [4])))] ⟨[.val d, .val (.int t), .own (.lst ((0 :: (xs.take i).map (cw xs t)).map D.int)), .val (.int z), .no], hs, []⟩ = .ok [.int (cw xs t z)] ⟨[.val d, .val (.int t), .own (.lst ((0 :: (xs.take i).map (cw xs t)).map D.int)), .val (.int z), .no], hs, []⟩ := by
          refine as_cons (rd_m1 (Ev.rd q rfl) ?_) as_nil
          show some (D.int ((iD _).length : Nat)) = _
          rw [iD_len]
          rfl
        have ap := e_app (i := 2) rfl ar (by rw [List.length_map, List.length_cons, List.length_map, List.length_take]; omega)
        unfold sDrop
        rw [sM_ok ap]
        have tk : (xs.take (i + 1)).map (cw xs t) = (xs.take i).map (cw xs t) ++ [cw xs t z] := by rw [List.take_succ, h3]; simp
        rw [tk]
        simp)
    (fun s ⟨a, e⟩ => ⟨s, a, rfl, by rw [iD_len, List.take_length] at e; exact e⟩) ⟨_, rfl⟩
  obtain ⟨s2, a, l1, l2⟩ := loop
  have main : p__law_most ⟨[.val d, .val (.int t), .no, .no, .no], hs, []⟩ = .rt (.int (lm xs t)) s2 := by
    refine st_seq (s' := ⟨[.val d, .val (.int t), .own (.lst [.int 0]), .no, .no], hs, []⟩) rfl (st_seq l1 ?_)
    refine st_ret (rd_m1 (ro (i := 2) (d := .lst ((0 :: xs.map (cw xs t)).map D.int)) (by rw [l2]; rfl)) ?_)
    show (some ((0 :: xs.map (cw xs t)).map D.int)).bind (fun xs => (intsOf xs).bind fun bs => if bs.isEmpty = true then none else some (D.int (maxL bs))) = _
    rw [Option.bind_some, ints_map]
    rfl
  exact (fn_is (N := 5) (n := 2) (p := p__law_most) (ds := [d, .int t]) (hs := hs) main).trans (by rw [l2])
end K03

set_option Elab.async false
set_option linter.all false
set_option maxRecDepth 100000
set_option maxHeartbeats 2000000
/-! K03, part P7: the other defs. -/
namespace K03
open PySem Rf
def snL (m t : Int) (n : Nat) : List Int := (List.range n).map fun (i : Nat) => (i : Int) / m * t
def sn (m t : Int) (n : Nat) : D := if m = 0 then (if n = 0 then .lst [] else .non) else .lst (iD (snL m t n))
theorem st_seqR {p q : MS} {s s' : Stt} {d : D} (h : p s = .rt d s') : sSeq p q s = .rt d s' := by unfold sSeq; rw [h]
theorem rng_at (n i : Nat) : (if i < n then some (D.int (0 + (i : Nat))) else none) = ((List.range n).map fun i : Nat => D.int (i : Nat))[i]? := by
  rw [List.getElem?_map]
  by_cases h : i < n
  · rw [if_pos h, List.getElem?_range h]; simp
  · rw [if_neg h, List.getElem?_eq_none (by simpa using h)]; rfl
theorem e_rng1 {m : M Hd} {s : Stt} {n : Nat} (h : Ev m s (.int (n : Nat))) (hn : n ≤ 1000) : iR1 (mDs false [m]) s = .ok (.rng 0 n) s := by
  unfold iR1
  rw [bnd_ok (as_cons h as_nil)]
  show (if smallI (n : Int) = true then Rf.ret (It.rng 0 (n : Int).toNat) else Rf.bad) s = _
  rw [if_pos (by unfold smallI; rw [decide_eq_true_eq]; omega)]
  rfl
def fM (g : Int → D) : D → Option D
  | .int i => some (g i)
  | _ => none
theorem fM_rng (g : Int → D) (n : Nat) : ((List.range n).map fun i : Nat => D.int (i : Nat)).filterMap (fM g) = (List.range n).map fun i : Nat => g (i : Nat) := by
  rw [List.filterMap_map]
  show (List.range n).filterMap (fun i : Nat => some (g (i : Nat))) = _
  rw [filterMap_some]
theorem e_soonest (m t : Int) (n : Nat) (hs : List D) (h1 : 0 ≤ m) (h2 : m ≤ 999) (h3 : 1 ≤ t) (h4 : t ≤ 99) (h5 : n ≤ 900) : r_soonest [fD m t, .int (n : Nat)] hs = .ok (sn m t n) hs := by
  have c1 := e_check_faults m t hs
  have c2 := e_check_number "many" (n : Int) 0 999 hs (by omega) (by omega)
  refine fn_is (N := 3) (n := 2) (p := p_soonest) (s := ⟨[.val (fD m t), .val (.int (n : Nat)), .no], hs, []⟩) ?_
  refine st_seq (st_drop (ev_call (as_cons (evv rfl) as_nil) rfl c1)) (st_seq (st_drop (ev_call (as_cons evc (as_cons (evv rfl) (as_cons evc (as_cons evc as_nil)))) rfl c2)) ?_)
  have tst : mTB (mBin eqvD (mFld gd "many" (mVar 0)) (mC (.int 0))) ⟨[.val (fD m t), .val (.int (n : Nat)), .no], hs, []⟩ = .ok (m == 0) ⟨[.val (fD m t), .val (.int (n : Nat)), .no], hs, []⟩ :=
    te_tb (Ev.rd (rd_bin (z := .bl (m == 0)) (Ev.rd (rd_fld (c := 3) (rv rfl rfl) rfl rfl) rfl) (rc rfl) rfl) rfl)
  by_cases q : m = 0
  · subst q
    refine st_seqR (st_if tst (fun _ => st_ret (d := sn 0 t n) ?_) (fun z => by cases z))
    have t2 : mTB (mBin eqvD (mVar 1) (mC (.int 0))) ⟨[.val (fD 0 t), .val (.int (n : Nat)), .no], hs, []⟩ = .ok ((n : Int) == 0) ⟨[.val (fD 0 t), .val (.int (n : Nat)), .no], hs, []⟩ :=
      te_tb (Ev.rd (rd_bin (z := .bl ((n : Int) == 0)) (rv rfl rfl) (rc rfl) rfl) rfl)
    refine ev_if t2 (fun z => ?_) (fun z => ?_)
    · have : n = 0 := by simpa using z
      subst this
      exact ev_lst as_nil (by decide)
    · have : n ≠ 0 := by simpa using z
      unfold sn
      rw [if_pos rfl, if_neg this]
      exact evc
  · have nz : (m == 0) = false := by simpa using q
    rw [nz] at tst
    refine st_seq (st_if tst (fun z => by cases z) (fun _ => rfl)) ?_
    have e := lc_is (t := tgName 2) (c := mYes) (e := mBin mulD (mBin fdivD (mVar 2) (mFld gd "many" (mVar 0))) (mFld gd "ticks" (mVar 0))) (vs := [2]) (xs := (List.range n).map fun i : Nat => D.int (i : Nat)) (fM fun i => .int (i / m * t))
      (e_rng1 (s := ⟨[.val (fD m t), .val (.int (n : Nat)), .no], hs, []⟩) (evv (i := 1) rfl) (by omega)) rfl (by rw [List.length_map, List.length_range]; rfl) (by rw [List.length_map, List.length_range]; omega) (by simp) (fun acc i => by rw [← rng_at]; rfl) (fun acc x hx => by
        obtain ⟨i, _, rfl⟩ := List.mem_map.mp hx
        refine ⟨⟨[.val (fD m t), .val (.int (n : Nat)), .val (.int (i : Nat))], hs, [.lst acc]⟩, rfl, rfl, rfl, .yes rfl ?_⟩
        have w : Ev (mBin mulD (mBin fdivD (mVar 2) (mFld gd "many" (mVar 0))) (mFld gd "ticks" (mVar 0))) ⟨[.val (fD m t), .val (.int (n : Nat)), .val (.int (i : Nat))], hs, [.lst acc]⟩ (.int ((i : Int) / m * t)) :=
          rd_bin (x := .int ((i : Int) / m)) (Ev.rd (rd_bin (rv rfl rfl) (Ev.rd (rd_fld (c := 3) (d := .int m) (rv rfl rfl) rfl rfl) rfl) (if_pos (by omega))) rfl) (Ev.rd (rd_fld (c := 3) (d := .int t) (rv rfl rfl) rfl rfl) rfl) (if_pos (.inr (by omega)))
        unfold mD
        rw [bnd_ok w]
        rfl)
    rw [fM_rng] at e
    refine st_ret (d := sn m t n) ?_
    unfold sn
    rw [if_neg q]
    unfold snL iD
    rw [List.map_map]
    exact e
/-! outcomes -/
def bD (n : Int) : D := .ins 4 [("many", .int n)]
def pD (xs : List Int) : D := .ins 5 [("falls", .tup (iD xs))]
theorem ev_new {run : List D → List D → OutI} {c n : Nat} {a : M (List D)} {s : Stt} {ds : List D} {fs : List (Str × D)} (h : a s = .ok ds s) (hl : ds.length + 1 = n) (hr : run ds s.hs = .ok fs s.hs) : Ev (mVal (nNew (fun _ => run) c n a)) s (.ins c fs) := by
  have q : nNew (fun _ => run) c n a s = .ok s.tm.length { s with tm := s.tm ++ [.ins c fs] } := by
    unfold nNew
    rw [bnd_ok h]
    simp only [hl, if_true, hr]
  unfold Ev mVal
  rw [q]
  simp [popT]
theorem e_Bears (d : D) (hs : List D) : i_Bears [d] hs = .ok [("many", d)] hs := by rfl
theorem e_Passed {d : D} {xs : List Int} (hd : Sq d xs) (hs : List D) : i_Passed [d] hs = .ok [("falls", .tup (iD xs))] hs := by cases hd <;> rfl
theorem e_PassedT (xs : List D) (hs : List D) : i_Passed [.tup xs] hs = .ok [("falls", .tup xs)] hs := by rfl
theorem e_check_bound (most k m t : Int) (hs : List D) (m1 : 0 ≤ most) (m2 : most ≤ 99) (t1 : 1 ≤ k) (t2 : k ≤ 99) : r_check_bound [.int most, .int k, fD m t] hs = .ok .non hs := by
  have c1 := e_check_number "most" most 0 99 hs m1 m2
  have c2 := e_check_number "ticks" k 1 99 hs t1 t2
  have c3 := e_check_faults m t hs
  exact fn_is0 (N := 3) (n := 3) (p := p_check_bound) (s := ⟨[.val (.int most), .val (.int k), .val (fD m t)], hs, []⟩)
    (st_seq (st_drop (ev_call (as_cons evc (as_cons (evv rfl) (as_cons evc (as_cons evc as_nil)))) rfl c1)) (st_seq (st_drop (ev_call (as_cons evc (as_cons (evv rfl) (as_cons evc (as_cons evc as_nil)))) rfl c2)) (st_drop (ev_call (as_cons (evv rfl) as_nil) rfl c3))))
def mw (k m t : Int) : Int := (k + t - 1) / t * m
def jd (most : Nat) (k m t : Int) : D := if mw k m t ≤ most then bD (mw k m t) else pD (snL m t (most + 1))
theorem mw_zero (k t : Int) : mw k 0 t = 0 := by unfold mw; rw [Int.mul_zero]
theorem e_judge (most : Nat) (k m t : Int) (hs : List D) (h1 : 0 ≤ m) (h2 : m ≤ 999) (h3 : 1 ≤ t) (h4 : t ≤ 99) (m2 : most ≤ 99) (t1 : 1 ≤ k) (t2 : k ≤ 99) : r_judge_bound [.int (most : Nat), .int k, fD m t] hs = .ok (jd most k m t) hs := by
  have c1 := e_check_bound (most : Int) k m t hs (by omega) (by omega) t1 t2
  have c2 := e_most_within k m t hs t1 (by omega) h3 h4 h1 h2
  refine fn_is (N := 4) (n := 3) (p := p_judge_bound) (s := ⟨[.val (.int (most : Nat)), .val (.int k), .val (fD m t), .val (.int (mw k m t))], hs, []⟩) ?_
  refine st_seq (st_drop (ev_call (as_cons (evv rfl) (as_cons (evv rfl) (as_cons (evv rfl) as_nil))) rfl c1)) (st_seq (st_set (ev_call (as_cons (evv rfl) (as_cons (evv rfl) as_nil)) rfl c2)) (st_ret (d := jd most k m t) ?_))
  refine ev_if (b := decide (mw k m t ≤ most)) (te_tb (Ev.rd (rd_bin (rv rfl rfl) (rv rfl rfl) rfl) rfl)) (fun z => ?_) (fun z => ?_)
  · have z := of_decide_eq_true z
    unfold jd
    rw [if_pos z]
    exact ev_new (as_cons (evv rfl) as_nil) rfl (e_Bears _ hs)
  · have z := of_decide_eq_false z
    unfold jd
    rw [if_neg z]
    have nz : m ≠ 0 := fun q => by rw [q, mw_zero] at z; omega
    have c3 := e_soonest m t (most + 1) hs h1 h2 h3 h4 (by omega)
    unfold sn at c3
    rw [if_neg nz] at c3
    exact ev_new (as_cons (ev_call (as_cons (evv rfl) (as_cons (rd_bin (z := .int ((most + 1 : Nat) : Int)) (rv rfl rfl) (rc rfl) rfl) as_nil)) rfl c3) as_nil) rfl (e_Passed (.lst _) hs)
end K03

set_option Elab.async false
set_option linter.all false
set_option maxRecDepth 100000
set_option maxHeartbeats 2000000
/-! K03, part P8: outcomes asked; the law's numbers. -/
namespace K03
open PySem Rf
theorem ev_meth {oc : Oc} {nm : Str} {m : M Hd} {ms : M (List D)} {s : Stt} {c i : Nat} {fs : List (Str × D)} {ds : List D} {d : D} (h : Ev m s (.ins c fs)) (hn : (lookF nm fs).isNone = true) (hm : gd.meth c nm = some i) (ha : ms s = .ok ds s) (hl : ds.length + 1 = gd.fn i) (hr : oc i (.ins c fs :: ds) s.hs = .ok d s.hs) : Ev (mMeth gd oc false nm m ms) s d := by
  unfold Ev mMeth
  rw [bnd_ok h, bnd_ok (look_ok (d := .ins c fs) rfl), bnd_ok (opt_ok (show methD gd nm (.ins c fs) = some i from by unfold methD; dsimp only; rw [if_pos hn]; exact hm))]
  rw [bnd_ok (show toD false (.d (.ins c fs)) s = .ok (.ins c fs) s from rfl), bnd_ok ha]
  unfold callD
  rw [if_pos (by rw [List.length_cons]; exact hl), hr]
  rfl
theorem e_Bears_eq (a b : Int) (hs : List D) : r_Bears_eq [bD a, bD b] hs = .ok (.bl (a == b)) hs := by
  have : r_Bears_eq [bD a, bD b] hs = .ok (.bl (a == b)) hs := by rfl
  exact this
theorem e_Bears_eqN (a : Int) (hs : List D) : r_Bears_eq [bD a, .ins 4 [("many", .non)]] hs = .ok (.bl false) hs := by rfl
theorem e_cmp {neg r : Bool} {a b : M Hd} {s : Stt} {c c2 i : Nat} {fs gs : List (Str × D)} (ha : Ev a s (.ins c fs)) (hb : Ev b s (.ins c2 gs)) (hm : gd.meth c "__eq__" = some i) (hf : gd.nf c c2 = true ∧ gd.fn i = 2 ∧ (neg = true → gd.hne c = true)) (hr : ocEq i [.ins c fs, .ins c2 gs] s.hs = .ok (.bl r) s.hs) :
    Ev (mCmpI gd ocEq neg a b) s (.bl (if neg then !r else r)) := by
  unfold Ev mCmpI
  rw [bnd_ok ha, bnd_ok hb, bnd_ok (look_ok (d := .ins c fs) rfl), bnd_ok (look_ok (d := .ins c2 gs) rfl)]
  simp only [hm]
  rw [if_pos hf]
  rw [bnd_ok (show toD false (.d (.ins c fs)) s = .ok (.ins c fs) s from rfl), bnd_ok (show toD false (.d (.ins c2 gs)) s = .ok (.ins c2 gs) s from rfl)]
  unfold eqCall
  rw [hr]
theorem e_Bears_shows (n : Int) (most : Nat) (k m t : Int) (hs : List D) (h1 : 0 ≤ m) (h2 : m ≤ 999) (h3 : 1 ≤ t) (h4 : t ≤ 99) (m2 : most ≤ 99) (t1 : 1 ≤ k) (t2 : k ≤ 99) (hb : mw k m t ≤ most) :
    r_Bears_shows [bD n, .int (most : Nat), .int k, fD m t] hs = .ok (.bl (mw k m t == n)) hs := by
  have c := e_judge most k m t hs h1 h2 h3 h4 m2 t1 t2
  unfold jd at c
  rw [if_pos hb] at c
  exact fn_is (N := 4) (n := 4) (p := p_Bears_shows) (s := ⟨[.val (bD n), .val (.int (most : Nat)), .val (.int k), .val (fD m t)], hs, []⟩)
    (st_ret (e_cmp (neg := false) (c := 4) (c2 := 4) (i := 2) (ev_call (as_cons (evv rfl) (as_cons (evv rfl) (as_cons (evv rfl) as_nil))) rfl c) (evv rfl) (by rfl) ⟨by rfl, by rfl, fun z => by cases z⟩ (e_Bears_eq _ n hs)))
theorem e_Bears_showsN (most : Nat) (k m t : Int) (hs : List D) (h1 : 0 ≤ m) (h2 : m ≤ 999) (h3 : 1 ≤ t) (h4 : t ≤ 99) (m2 : most ≤ 99) (t1 : 1 ≤ k) (t2 : k ≤ 99) (hb : mw k m t ≤ most) :
    r_Bears_shows [.ins 4 [("many", .non)], .int (most : Nat), .int k, fD m t] hs = .ok (.bl false) hs := by
  have c := e_judge most k m t hs h1 h2 h3 h4 m2 t1 t2
  unfold jd at c
  rw [if_pos hb] at c
  exact fn_is (N := 4) (n := 4) (p := p_Bears_shows) (s := ⟨[.val (.ins 4 [("many", .non)]), .val (.int (most : Nat)), .val (.int k), .val (fD m t)], hs, []⟩)
    (st_ret (e_cmp (neg := false) (c := 4) (c2 := 4) (i := 2) (ev_call (as_cons (evv rfl) (as_cons (evv rfl) (as_cons (evv rfl) as_nil))) rfl c) (evv rfl) (by rfl) ⟨by rfl, by rfl, fun z => by cases z⟩ (e_Bears_eqN _ hs)))
/-! Passed(xs).shows -/
theorem flats_iD : ∀ (xs : List Int) (n : Nat), D.flats (iD xs) n = true
  | [], _ => by simp [iD, D.flats]
  | x :: r, n => by
    have ih := flats_iD r n
    unfold iD at ih ⊢
    rw [List.map_cons]
    unfold D.flats
    rw [ih]
    simp [D.flat]
theorem nev_nilT (xs : List Int) : nevD (.tup (iD xs)) (.tup []) = some (.bl (!xs.isEmpty)) := by
  unfold nevD eqD
  have a : D.flat (.tup (iD xs)) 40 = true := by unfold D.flat; rw [flats_iD]; rfl
  have b : D.flat (.tup []) 40 = true := by rfl
  rw [a, b]
  cases xs <;> rfl
theorem eq_oN (o : Option Nat) (z : Int) : eqvD (oN o) (.int z) = some (.bl (match o with | some i => (i : Int) == z | none => false)) := by
  cases o <;> rfl
def shB (xs : List Int) (most k m t : Int) : Bool := areB xs t m && ((match fbF xs k most xs.length 0 with | some i => (i : Int) == (xs.length : Int) - 1 | none => false) && !xs.isEmpty)
def pLoop : MS := sFor (iH (mFld gd "falls" (mVar 0))) (tgName 5) (sSeq (sIf (mNotT (mTV (mCall (fun _ => r_is_number) 0 3 (mDs false [(mVar 5), (mVar 4), (mC (.int 99999))])))) (sRet (mC (.bl false))) sPass) (sSet 4 (mVar 5)))
def pEnd : MS := sSeq (sIf (mNotT (mTV (mCall (fun _ => r_are_within) 0 2 (mDs false [(mVar 3), (mFld gd "falls" (mVar 0))])))) (sRet (mC (.bl false))) sPass) (sRet (mAndV [(mBin eqvD (mCall (fun _ => r_first_beyond) 0 3 (mDs false [(mVar 1), (mVar 2), (mFld gd "falls" (mVar 0))])) (mBin subD (m1 lenO (mFld gd "falls" (mVar 0))) (mC (.int 1)))), (mBin nevD (mFld gd "falls" (mVar 0)) (mTup (mDs false [])))]))
theorem shows_pre {xs : List D} {most k m t : Int} {hs : List D} {r : OutS} (m1 : 0 ≤ most) (m2 : most ≤ 99) (t1 : 1 ≤ k) (t2 : k ≤ 99) (h : sSeq pLoop pEnd ⟨[.val (.ins 5 [("falls", .tup xs)]), .val (.int most), .val (.int k), .val (fD m t), .val (.int 0), .no], hs, []⟩ = r) :
    p_Passed_shows ⟨[.val (.ins 5 [("falls", .tup xs)]), .val (.int most), .val (.int k), .val (fD m t), .no, .no], hs, []⟩ = r := by
  have c1 := e_check_bound most k m t hs m1 m2 t1 t2
  exact st_seq (st_drop (ev_call (as_cons (evv rfl) (as_cons (evv rfl) (as_cons (evv rfl) as_nil))) rfl c1)) (st_seq (st_set evc) h)
theorem shows_loop {xs : List Int} {most k m t : Int} {hs : List D} :
    (upF 0 xs = true ∧ ∃ l a, pLoop ⟨[.val (pD xs), .val (.int most), .val (.int k), .val (fD m t), .val (.int 0), .no], hs, []⟩ = .nx ⟨[.val (pD xs), .val (.int most), .val (.int k), .val (fD m t), l, a], hs, []⟩) ∨
    (upF 0 xs = false ∧ ∃ s2, pLoop ⟨[.val (pD xs), .val (.int most), .val (.int k), .val (fD m t), .val (.int 0), .no], hs, []⟩ = .rt (.bl false) s2 ∧ s2.hs = hs) := by
  refine for_post (J := .tup (.d (.tup (iD xs)))) (xs := iD xs) (s' := ⟨[.val (pD xs), .val (.int most), .val (.int k), .val (fD m t), .val (.int 0), .no], hs, []⟩)
    (fun i s => ∃ l a, s = ⟨[.val (pD xs), .val (.int most), .val (.int k), .val (fD m t), .val (.int l), a], hs, []⟩ ∧ upF 0 xs = upF l (xs.drop i))
    (fun r => (upF 0 xs = true ∧ ∃ l a, r = .nx ⟨[.val (pD xs), .val (.int most), .val (.int k), .val (fD m t), l, a], hs, []⟩) ∨ (upF 0 xs = false ∧ ∃ s2, r = .rt (.bl false) s2 ∧ s2.hs = hs)) rfl rfl rfl (fun i s ⟨l, a, e, _⟩ => by rw [e]; rfl) (fun i x s hx ⟨l, a, e, h⟩ => ?_) (fun s ⟨l, a, e, h⟩ => ?_) ⟨0, _, rfl, rfl⟩
  · subst e
    unfold iD at hx
    rw [List.getElem?_map] at hx
    obtain ⟨z, h3, h4⟩ := Option.map_eq_some_iff.mp hx
    obtain ⟨hi, h5⟩ := List.getElem?_eq_some_iff.mp h3
    subst h4
    rw [List.drop_eq_getElem_cons hi, h5] at h
    refine ⟨⟨[.val (pD xs), .val (.int most), .val (.int k), .val (fD m t), .val (.int l), .val (.int z)], hs, []⟩, rfl, ?_⟩
    have c := e_is_number z l 99999 hs
    have tst : mNotT (mTV (mCall (fun _ => r_is_number) 0 3 (mDs false [(mVar 5), (mVar 4), (mC (.int 99999))]))) ⟨[.val (pD xs), .val (.int most), .val (.int k), .val (fD m t), .val (.int l), .val (.int z)], hs, []⟩ = .ok (!(decide (l ≤ z) && decide (z ≤ 99999))) ⟨[.val (pD xs), .val (.int most), .val (.int k), .val (fD m t), .val (.int l), .val (.int z)], hs, []⟩ :=
      te_not (te_tv (Ev.rd (ev_call (as_cons (evv rfl) (as_cons (evv rfl) (as_cons evc as_nil))) rfl c) rfl) rfl)
    rw [show upF l (z :: xs.drop (i + 1)) = (decide (l ≤ z) && decide (z ≤ 99999) && upF z (xs.drop (i + 1))) from rfl] at h
    cases q : decide (l ≤ z) && decide (z ≤ 99999)
    · rw [q] at tst h
      exact .inr (.inl ⟨_, _, st_seqR (st_if tst (fun _ => st_ret evc) (fun z => by cases z)), .inr ⟨h, _, rfl, rfl⟩⟩)
    · rw [q] at tst h
      exact .inl ⟨⟨[.val (pD xs), .val (.int most), .val (.int k), .val (fD m t), .val (.int z), .val (.int z)], hs, []⟩, st_seq (st_if tst (fun z => by cases z) (fun _ => rfl)) (st_set (evv rfl)), z, _, rfl, h⟩
  · rw [iD_len, List.drop_length] at h
    exact .inl ⟨h, _, a, by rw [e]⟩
theorem e_shows_up {xs : List Int} (hu : upF 0 xs = true) (hl : xs.length ≤ 900) (most k m t : Int) (hs : List D) (m1 : 0 ≤ most) (m2 : most ≤ 99) (t1 : 1 ≤ k) (t2 : k ≤ 99) : r_Passed_shows [pD xs, .int most, .int k, fD m t] hs = .ok (.bl (shB xs most k m t)) hs := by
  rcases shows_loop (xs := xs) (most := most) (k := k) (m := m) (t := t) (hs := hs) with ⟨_, l, a, lp⟩ | ⟨q, _⟩
  · have c1 := e_are_within (.tup xs) hu hl m t hs
    have c2 := e_first_beyond (.tup xs) hu hl most k hs m1 m2 t1 t2
    refine fn_is (N := 6) (n := 4) (p := p_Passed_shows) (s := ⟨[.val (pD xs), .val (.int most), .val (.int k), .val (fD m t), l, a], hs, []⟩) (shows_pre m1 m2 t1 t2 (st_seq lp ?_))
    have fl : ∀ s : Stt, s.σ[0]? = some (.val (pD xs)) → Ev (mFld gd "falls" (mVar 0)) s (.tup (iD xs)) := fun s h => rd_fld (c := 5) (rv (d := pD xs) h rfl) rfl rfl
    have tst : mNotT (mTV (mCall (fun _ => r_are_within) 0 2 (mDs false [(mVar 3), (mFld gd "falls" (mVar 0))]))) ⟨[.val (pD xs), .val (.int most), .val (.int k), .val (fD m t), l, a], hs, []⟩ = .ok (!(areB xs t m)) ⟨[.val (pD xs), .val (.int most), .val (.int k), .val (fD m t), l, a], hs, []⟩ :=
      te_not (te_tv (Ev.rd (ev_call (as_cons (evv rfl) (as_cons (fl _ rfl) as_nil)) rfl c1) rfl) rfl)
    unfold shB
    cases q : areB xs t m
    · rw [q] at tst
      exact st_seqR (st_if tst (fun _ => st_ret evc) (fun z => by cases z))
    · rw [q] at tst
      rw [Bool.true_and]
      refine st_seq (st_if tst (fun z => by cases z) (fun _ => rfl)) (st_ret ?_)
      refine ev_and (Ev.rd (rd_bin (Ev.rd (ev_call (as_cons (evv rfl) (as_cons (evv rfl) (as_cons (fl _ rfl) as_nil))) rfl c2) (by cases fbF xs k most xs.length 0 <;> rfl)) (Ev.rd (rd_bin (z := .int ((xs.length : Int) - 1)) (Ev.rd (rd_m1 (z := .int (xs.length : Nat)) (Ev.rd (fl _ rfl) rfl) (by show some (D.int ((iD xs).length : Nat)) = _; rw [iD_len])) rfl) (rc rfl) rfl) rfl) (eq_oN _ _)) rfl) (fun _ => ev_and1 (rd_bin (Ev.rd (fl _ rfl) rfl) (Ev.rd (ev_tup as_nil (by decide)) rfl) (nev_nilT xs)))
  · rw [hu] at q; cases q
theorem e_shows_dn {xs : List Int} (hu : upF 0 xs = false) (most k m t : Int) (hs : List D) (m1 : 0 ≤ most) (m2 : most ≤ 99) (t1 : 1 ≤ k) (t2 : k ≤ 99) : r_Passed_shows [pD xs, .int most, .int k, fD m t] hs = .ok (.bl false) hs := by
  rcases shows_loop (xs := xs) (most := most) (k := k) (m := m) (t := t) (hs := hs) with ⟨q, _⟩ | ⟨_, s2, lp, e⟩
  · rw [hu] at q; cases q
  · exact (fn_is (N := 6) (n := 4) (p := p_Passed_shows) (ds := [pD xs, .int most, .int k, fD m t]) (hs := hs) (shows_pre m1 m2 t1 t2 (st_seqR lp))).trans (by rw [e])
theorem e_showsX {x : D} (hx : ∀ hs, r_is_number [x, .int 0, .int 99999] hs = .ok (.bl false) hs) (most k m t : Int) (hs : List D) (m1 : 0 ≤ most) (m2 : most ≤ 99) (t1 : 1 ≤ k) (t2 : k ≤ 99) : r_Passed_shows [.ins 5 [("falls", .tup [x])], .int most, .int k, fD m t] hs = .ok (.bl false) hs := by
  have lp : pLoop ⟨[.val (.ins 5 [("falls", .tup [x])]), .val (.int most), .val (.int k), .val (fD m t), .val (.int 0), .no], hs, []⟩ = .rt (.bl false) ⟨[.val (.ins 5 [("falls", .tup [x])]), .val (.int most), .val (.int k), .val (fD m t), .val (.int 0), .val x], hs, []⟩ := by
    have tst : mNotT (mTV (mCall (fun _ => r_is_number) 0 3 (mDs false [(mVar 5), (mVar 4), (mC (.int 99999))]))) ⟨[.val (.ins 5 [("falls", .tup [x])]), .val (.int most), .val (.int k), .val (fD m t), .val (.int 0), .val x], hs, []⟩ = .ok true ⟨[.val (.ins 5 [("falls", .tup [x])]), .val (.int most), .val (.int k), .val (fD m t), .val (.int 0), .val x], hs, []⟩ :=
      te_not (b := false) (te_tv (Ev.rd (ev_call (as_cons (evv rfl) (as_cons (evv rfl) (as_cons evc as_nil))) rfl (hx hs)) rfl) rfl)
    have b : (sSeq (sIf (mNotT (mTV (mCall (fun _ => r_is_number) 0 3 (mDs false [(mVar 5), (mVar 4), (mC (.int 99999))])))) (sRet (mC (.bl false))) sPass) (sSet 4 (mVar 5))) ⟨[.val (.ins 5 [("falls", .tup [x])]), .val (.int most), .val (.int k), .val (fD m t), .val (.int 0), .val x], hs, []⟩ = .rt (.bl false) ⟨[.val (.ins 5 [("falls", .tup [x])]), .val (.int most), .val (.int k), .val (fD m t), .val (.int 0), .val x], hs, []⟩ :=
      st_seqR (st_if tst (fun _ => st_ret evc) (fun z => by cases z))
    show forGo (.tup (.d (.tup [x]))) (tgName 5) _ 1 0 _ = _
    unfold forGo
    show (match (sSeq (sIf (mNotT (mTV (mCall (fun _ => r_is_number) 0 3 (mDs false [(mVar 5), (mVar 4), (mC (.int 99999))])))) (sRet (mC (.bl false))) sPass) (sSet 4 (mVar 5))) ⟨[.val (.ins 5 [("falls", .tup [x])]), .val (.int most), .val (.int k), .val (fD m t), .val (.int 0), .val x], hs, []⟩ with | .nx s' => _ | .ct s' => _ | .bk s' => _ | .rt d s' => _ | .exc c fs s' => _ | .bad => _) = _
    rw [b]
  exact fn_is (N := 6) (n := 4) (p := p_Passed_shows) (s := ⟨[.val (.ins 5 [("falls", .tup [x])]), .val (.int most), .val (.int k), .val (fD m t), .val (.int 0), .val x], hs, []⟩) (shows_pre m1 m2 t1 t2 (st_seqR lp))
end K03

set_option Elab.async false
set_option linter.all false
set_option maxRecDepth 100000
set_option maxHeartbeats 2000000
/-! K03, part P9: the greatest ticks; the law's numbers. -/
namespace K03
open PySem Rf
theorem nev_nilL (xs : List Int) : nevD (.lst (iD xs)) (.lst []) = some (.bl (!xs.isEmpty)) := by
  unfold nevD eqD
  have a : D.flat (.lst (iD xs)) 40 = true := by unfold D.flat; rw [flats_iD]; rfl
  have b : D.flat (.lst []) 40 = true := by rfl
  rw [a, b]
  cases xs <;> rfl
theorem nev_nilF (xs : List Int) : nevD (.frl (iD xs)) (.lst []) = some (.bl (!xs.isEmpty)) := by
  unfold nevD eqD
  have a : D.flat (.frl (iD xs)) 40 = true := by unfold D.flat; rw [flats_iD]; rfl
  have b : D.flat (.lst []) 40 = true := by rfl
  rw [a, b]
  cases xs <;> rfl
def lst0 (xs : List Int) : Int := xs.getLastD 0
theorem item_last {xs : List Int} (h : xs.isEmpty = false) : itemD (.lst (iD xs)) (.int (-1)) = some (.int (lst0 xs)) := by
  have hl : 0 < xs.length := by cases xs <;> simp at h ⊢
  show L2.atI (iD xs) (-1) = _
  unfold L2.atI L2.ixN
  rw [if_neg (by omega), if_pos (by rw [iD_len]; omega), iD_len]
  show (iD xs)[_]? = _
  unfold iD lst0
  rw [List.getElem?_map, List.getLastD_eq_getLast?, List.getLast?_eq_getElem?]
  have e : (-1 + (xs.length : Int)).toNat = xs.length - 1 := by omega
  have lt : xs.length - 1 < xs.length := by omega
  first
    | rw [e, List.getElem?_eq_getElem lt]; rfl
    | (have e2 : ((xs.length : Int) + -1).toNat = xs.length - 1 := by omega
       rw [e2, List.getElem?_eq_getElem lt]; rfl)
theorem fI_rng (p : Int → Bool) (f : Nat → Int) (l : List Nat) : (l.map fun i => D.int (f i)).filterMap (fI p) = iD ((l.map f).filter p) := by
  have := fI_map p (l.map f)
  unfold iD at this
  rw [List.map_map] at this
  exact this
def gtL (m t most : Int) : List Int := ((List.range 99).map fun (i : Nat) => (1 + (i : Nat) : Int)).filter fun k => decide (mw k m t ≤ most)
theorem rng1_at (n i : Nat) (lo : Int) : (if i < n then some (D.int (lo + (i : Nat))) else none) = ((List.range n).map fun i : Nat => D.int (lo + (i : Nat)))[i]? := by
  rw [List.getElem?_map]
  by_cases h : i < n
  · rw [if_pos h, List.getElem?_range h]; rfl
  · rw [if_neg h, List.getElem?_eq_none (by simpa using h)]; rfl
/-- [k for k in range(1, 100) if most_within(k, faults) <= most] -/
theorem e_fits {s : Stt} {v f mo : Nat} {m t : Int} {most : Int} (hv : v < s.σ.length) (nv : noOwn [v] s = true) (h1 : 0 ≤ m) (h2 : m ≤ 999) (h3 : 1 ≤ t) (h4 : t ≤ 99) (hf : s.σ[f]? = some (.val (fD m t))) (hm : s.σ[mo]? = some (.val (.int most))) (nf : f ≠ v) (nm : mo ≠ v) :
    Ev (mVal (nLc (iR2 (mDs false [(mC (.int 1)), (mC (.int 100))])) (tgName v) (mTB (mBin leD (mCall (fun _ => r_most_within) 0 2 (mDs false [(mVar v), (mVar f)])) (mVar mo))) (mVar v) [v])) s (.lst (iD (gtL m t most))) := by
  have e := lc_is (mi := iR2 (mDs false [(mC (.int 1)), (mC (.int 100))])) (J := .rng 1 99) (s := s) (t := tgName v) (c := mTB (mBin leD (mCall (fun _ => r_most_within) 0 2 (mDs false [(mVar v), (mVar f)])) (mVar mo))) (e := mVar v) (vs := [v]) (xs := (List.range 99).map fun i : Nat => D.int (1 + (i : Nat))) (fI fun k => decide (mw k m t ≤ most)) (by rfl)
    (by unfold lcOk; rw [nv]; rfl) (by rw [List.length_map, List.length_range]; rfl) (by rw [List.length_map, List.length_range]; decide) (by intro x hx; rw [List.mem_singleton.mp hx]; exact hv) (fun acc i => by rw [← rng1_at]; rfl) (fun acc x hx => by
      obtain ⟨i, hi, rfl⟩ := List.mem_map.mp hx
      have hi : i < 99 := List.mem_range.mp hi
      have w1 : (wipeL s.σ [v]).length = s.σ.length := wipeL_len _ _
      have g : ∀ j, j ≠ v → ((wipeL s.σ [v]).set v (.val (.int (1 + (i : Nat)))))[j]? = s.σ[j]? := fun j hj => by
        rw [List.getElem?_set_ne (Ne.symm hj)]
        have := wipeL_get s.σ [v] j
        rw [if_neg (by simp [hj])] at this
        exact this
      have gv : ((wipeL s.σ [v]).set v (.val (.int (1 + (i : Nat)))))[v]? = some (.val (.int (1 + (i : Nat)))) := List.getElem?_set_self (by rw [w1]; exact hv)
      have c := e_most_within (1 + (i : Nat)) m t s.hs (by omega) (by omega) h3 h4 h1 h2
      refine ⟨⟨(wipeL s.σ [v]).set v (.val (.int (1 + (i : Nat)))), s.hs, s.tm ++ [.lst acc]⟩, rfl, ?_, rfl, tn_if (te_tb (Ev.rd (rd_bin (Ev.rd (ev_call (as_cons (evv gv) (as_cons (evv ((g f nf).trans hf)) as_nil)) rfl c) rfl) (rv ((g mo nm).trans hm) rfl) rfl) rfl)) (fun _ => by
        have z := evv (s := ⟨(wipeL s.σ [v]).set v (.val (.int (1 + (i : Nat)))), s.hs, s.tm ++ [.lst acc]⟩) gv
        unfold mD
        rw [bnd_ok z]
        rfl)⟩
      unfold wipeS blkS
      have : wipeL ((wipeL s.σ [v]).set v (.val (.int (1 + (i : Nat))))) [v] = wipeL s.σ [v] := by
        show (((s.σ.set v .no).set v _).set v .no) = s.σ.set v .no
        rw [List.set_set, List.set_set]
      rw [this])
  rw [fI_rng _ (fun i => (1 + (i : Nat) : Int))] at e
  exact e
theorem e_greatest (m t most : Int) (hs : List D) (h1 : 0 ≤ m) (h2 : m ≤ 999) (h3 : 1 ≤ t) (h4 : t ≤ 99) (m1 : 0 ≤ most) (m2 : most ≤ 99) : r_greatest_ticks [.int most, fD m t] hs = .ok (.int (if (gtL m t most).isEmpty = true then 0 else lst0 (gtL m t most))) hs := by
  have c1 := e_check_number "most" most 0 99 hs m1 m2
  have c2 := e_check_faults m t hs
  have f := e_fits (s := ⟨[.val (.int most), .val (fD m t), .no, .no], hs, []⟩) (v := 3) (f := 1) (mo := 0) (by simp) rfl h1 h2 h3 h4 rfl rfl (by decide) (by decide)
  refine fn_is (N := 4) (n := 2) (p := p_greatest_ticks) (s := ⟨[.val (.int most), .val (fD m t), .val (.lst (iD (gtL m t most))), .no], hs, []⟩) ?_
  refine st_seq (st_drop (ev_call (as_cons evc (as_cons (evv rfl) (as_cons evc (as_cons evc as_nil)))) rfl c1)) (st_seq (st_drop (ev_call (as_cons (evv rfl) as_nil) rfl c2)) (st_seq (st_set f) (st_ret ?_)))
  refine ev_if (te_tb (Ev.rd (rd_bin (rv rfl rfl) (Ev.rd (ev_lst as_nil (by decide)) rfl) (nev_nilL _)) rfl)) (fun z => ?_) (fun z => ?_)
  · have z : (gtL m t most).isEmpty = false := by simpa using z
    rw [if_neg (by rw [z]; simp)]
    exact rd_bin (rv rfl rfl) (Ev.rd (rd_m1 (z := .int (-1)) (rc rfl) rfl) rfl) (item_last z)
  · have z : (gtL m t most).isEmpty = true := by simpa using z
    rw [if_pos z]
    exact evc
/-! the law's numbers -/
theorem l_mod {i j : Int} (h : 0 < j) : modD (.int i) (.int j) = some (.int (i % j)) := if_pos h
theorem l_fdiv {i j : Int} (h : 0 < j) (h2 : j < 1073741824) : fdivD (.int i) (.int j) = some (.int (i / j)) := if_pos ⟨h, h2⟩
theorem l_mulL {i j : Int} (h : -18446744073709551616 < i) (h2 : i < 18446744073709551616) : mulD (.int i) (.int j) = some (.int (i * j)) := if_pos (.inl ⟨h, h2⟩)
theorem l_mulR {i j : Int} (h : -18446744073709551616 < j) (h2 : j < 18446744073709551616) : mulD (.int i) (.int j) = some (.int (i * j)) := if_pos (.inr ⟨h, h2⟩)
theorem l_pow : powD (.int 10) (.int 18) = some (.int 1000000000000000000) := by rfl
theorem st_unp {t : Tg} {m : M Hd} {s s' : Stt} {d : D} (h : Ev m s d) (q : t d s = some s') : sUnp t m s = .nx s' := by
  unfold sUnp
  rw [sM_ok h, sM_ok (show toD false (.d d) s = .ok d s from rfl)]
  rw [q]
theorem e_law_number (ns : List Int) (k : Nat) (hl : ns.length ≤ 63) (hs : List D) : ∃ v : Int, 0 ≤ v ∧ r__law_number [.frl (iD ns), .int (k : Nat)] hs = .ok (.int v) hs := by
  -- cell, turn
  have s1 : ∃ c t : Int, 0 ≤ t ∧ (sUnp (tgTup 2 (tgsCons (tgName 2) (tgsCons (tgName 3) tgsNil))) (mIf (mTB (mBin nevD (mVar 0) (mLst (mDs false [])))) (mTup (mDs false [(mBin itemD (mVar 0) (mBin modD (mVar 1) (m1 lenO (mVar 0)))), (mBin fdivD (mVar 1) (m1 lenO (mVar 0)))])) (mTup (mDs false [(mC (.int 12345)), (mC (.int 0))]))))
      ⟨[.val (.frl (iD ns)), .val (.int (k : Nat)), .no, .no, .no, .no, .no], hs, []⟩ = .nx ⟨[.val (.frl (iD ns)), .val (.int (k : Nat)), .val (.int c), .val (.int t), .no, .no, .no], hs, []⟩ := by
    have tst := te_tb (Ev.rd (rd_bin (s := ⟨[.val (.frl (iD ns)), .val (.int (k : Nat)), .no, .no, .no, .no, .no], hs, []⟩) (ma := mVar 0) (mb := mLst (mDs false [])) (rv rfl rfl) (Ev.rd (ev_lst as_nil (by decide)) rfl) (nev_nilF ns)) rfl)
    cases e : ns.isEmpty
    · have hp : 0 < ns.length := by cases ns <;> simp at e ⊢
      have ln : lenO (.frl (iD ns)) = some (.int (ns.length : Nat)) := by show some (D.int ((iD ns).length : Nat)) = _; rw [iD_len]
      have hi : (k : Int) % (ns.length : Int) = ((k % ns.length : Nat) : Int) := (Int.natCast_emod k ns.length).symm
      have lt : k % ns.length < ns.length := Nat.mod_lt _ hp
      have it : itemD (.frl (iD ns)) (.int ((k : Int) % (ns.length : Int))) = some (.int ns[k % ns.length]) := by
        rw [hi]
        show L2.atI (iD ns) _ = _
        unfold L2.atI L2.ixN
        rw [if_pos (by omega), if_pos (by rw [iD_len]; omega)]
        show (iD ns)[_]? = _
        unfold iD
        rw [List.getElem?_map, Int.toNat_natCast, List.getElem?_eq_getElem lt]
        rfl
      refine ⟨ns[k % ns.length], (k : Int) / (ns.length : Int), Int.ediv_nonneg (by omega) (by omega), st_unp (d := .tup [.int ns[k % ns.length], .int ((k : Int) / (ns.length : Int))]) ?_ rfl⟩
      refine ev_if (by rw [e] at tst; exact tst) (fun _ => ev_tup (as_cons (rd_bin (rv rfl rfl) (Ev.rd (rd_bin (rv rfl rfl) (Ev.rd (rd_m1 (rv rfl rfl) ln) rfl) (l_mod (by omega))) rfl) it) (as_cons (rd_bin (rv rfl rfl) (Ev.rd (rd_m1 (rv rfl rfl) ln) rfl) (l_fdiv (by omega) (by omega))) as_nil)) (by simp)) (fun z => by cases z)
    · refine ⟨12345, 0, by omega, st_unp (d := .tup [.int 12345, .int 0]) ?_ rfl⟩
      exact ev_if (by rw [e] at tst; exact tst) (fun z => by cases z) (fun _ => ev_tup (as_cons evc (as_cons evc as_nil)) (by simp))
  obtain ⟨c, t, ht, q1⟩ := s1
  -- rest
  have s2 : ∃ r : Int, sSet 4 (mIf (mTB (mBin ltD (mVar 3) (mC (.int 60)))) (mBin subD (mVar 2) (mBin powD (mC (.int 10)) (mC (.int 18)))) (mC (.int 0))) ⟨[.val (.frl (iD ns)), .val (.int (k : Nat)), .val (.int c), .val (.int t), .no, .no, .no], hs, []⟩ = .nx ⟨[.val (.frl (iD ns)), .val (.int (k : Nat)), .val (.int c), .val (.int t), .val (.int r), .no, .no], hs, []⟩ := by
    have tst : mTB (mBin ltD (mVar 3) (mC (.int 60))) ⟨[.val (.frl (iD ns)), .val (.int (k : Nat)), .val (.int c), .val (.int t), .no, .no, .no], hs, []⟩ = .ok (decide (t < 60)) ⟨[.val (.frl (iD ns)), .val (.int (k : Nat)), .val (.int c), .val (.int t), .no, .no, .no], hs, []⟩ :=
      te_tb (Ev.rd (rd_bin (rv rfl rfl) (rc rfl) rfl) rfl)
    cases e : decide (t < 60)
    · exact ⟨0, st_set (ev_if (by rw [e] at tst; exact tst) (fun z => by cases z) (fun _ => evc))⟩
    · exact ⟨c - 1000000000000000000, st_set (ev_if (by rw [e] at tst; exact tst) (fun _ => rd_bin (rv rfl rfl) (Ev.rd (rd_bin (rc rfl) (rc rfl) l_pow) rfl) rfl) (fun z => by cases z))⟩
  obtain ⟨r0, q2⟩ := s2
  -- the loop
  have s3 := for_post (t := tgName 5) (body := sSet 4 (mBin fdivD (mVar 4) (mC (.int 1009)))) (xs := (List.range (t % 60).toNat).map fun i : Nat => D.int (i : Nat))
    (fun i s => ∃ r a, s = ⟨[.val (.frl (iD ns)), .val (.int (k : Nat)), .val (.int c), .val (.int t), .val (.int r), a, .no], hs, []⟩) (fun o => ∃ r a, o = .nx ⟨[.val (.frl (iD ns)), .val (.int (k : Nat)), .val (.int c), .val (.int t), .val (.int r), a, .no], hs, []⟩)
    (e_rng1 (m := mBin modD (m1 intO (mVar 3)) (mC (.int 60))) (n := (t % 60).toNat) (s := ⟨[.val (.frl (iD ns)), .val (.int (k : Nat)), .val (.int c), .val (.int t), .val (.int r0), .no, .no], hs, []⟩) (by
      have e : ((t % 60).toNat : Int) = t % 60 := by omega
      rw [e]
      exact rd_bin (Ev.rd (rd_m1 (rv rfl rfl) rfl) rfl) (rc rfl) (l_mod (by omega))) (by omega)) rfl (by rw [List.length_map, List.length_range]; rfl) (fun i s _ => by rw [← rng_at]; rfl)
    (fun i x s hx ⟨r, a, e⟩ => by
      subst e
      exact ⟨_, rfl, .inl ⟨_, st_set (d := .int (r / 1009)) (rd_bin (rv rfl rfl) (rc rfl) (l_fdiv (by omega) (by omega))), r / 1009, _, rfl⟩⟩)
    (fun s ⟨r, a, e⟩ => ⟨r, a, by rw [e]⟩) ⟨r0, _, rfl⟩
  obtain ⟨r, a, q3⟩ := s3
  -- what is given back
  have tst : mTB (mBin gtD (mVar 4) (mC (.int 0))) ⟨[.val (.frl (iD ns)), .val (.int (k : Nat)), .val (.int c), .val (.int t), .val (.int r), a, .no], hs, []⟩ = .ok (decide (0 < r)) ⟨[.val (.frl (iD ns)), .val (.int (k : Nat)), .val (.int c), .val (.int t), .val (.int r), a, .no], hs, []⟩ :=
    te_tb (Ev.rd (rd_bin (rv rfl rfl) (rc rfl) rfl) rfl)
  cases e : decide (0 < r)
  · rw [e] at tst
    have ln : lenO (.frl (iD ns)) = some (.int (ns.length : Nat)) := by show some (D.int ((iD ns).length : Nat)) = _; rw [iD_len]
    refine ⟨(((((c + 977 * (k : Int)) * 48271 + 31 * (ns.length : Int)) % 2147483647 * (((c + 977 * (k : Int)) * 48271 + 31 * (ns.length : Int)) % 2147483647) + 40503 * (k : Int)) % 2147483629) * 69621 + ((((c + 977 * (k : Int)) * 48271 + 31 * (ns.length : Int)) % 2147483647 * (((c + 977 * (k : Int)) * 48271 + 31 * (ns.length : Int)) % 2147483647) + 40503 * (k : Int)) % 2147483629) / 977) % 2147483587, Int.emod_nonneg _ (by decide), ?_⟩
    generalize hb : ((c + 977 * (k : Int)) * 48271 + 31 * (ns.length : Int)) % 2147483647 = b
    have hb1 : 0 ≤ b ∧ b < 2147483647 := by omega
    generalize hd : (b * b + 40503 * (k : Int)) % 2147483629 = b2
    have hd1 : 0 ≤ b2 ∧ b2 < 2147483629 := by omega
    refine fn_is (N := 7) (n := 2) (p := p__law_number) (s := ⟨[.val (.frl (iD ns)), .val (.int (k : Nat)), .val (.int c), .val (.int t), .val (.int r), a, .val (.int b2)], hs, []⟩) ?_
    refine st_seq q1 (st_seq q2 (st_seq q3 (st_seq (st_if tst (fun z => by cases z) (fun _ => rfl)) ?_)))
    refine st_seq (st_set (d := .int b) ?_) (st_seq (st_set (d := .int b2) ?_) (st_ret ?_))
    · rw [← hb]
      exact rd_bin (Ev.rd (rd_bin (Ev.rd (rd_bin (Ev.rd (rd_m1 (Ev.rd (rd_bin (rv rfl rfl) (Ev.rd (rd_bin (rc rfl) (rv rfl rfl) (l_mulL (by omega) (by omega))) rfl) rfl) rfl) rfl) rfl) (rc rfl) (l_mulR (by omega) (by omega))) rfl) (Ev.rd (rd_bin (rc rfl) (Ev.rd (rd_m1 (rv rfl rfl) ln) rfl) (l_mulL (by omega) (by omega))) rfl) rfl) rfl) (rc rfl) (l_mod (by omega))
    · rw [← hd]
      exact rd_bin (Ev.rd (rd_bin (Ev.rd (rd_bin (rv rfl rfl) (rv rfl rfl) (l_mulL (by omega) (by omega))) rfl) (Ev.rd (rd_bin (rc rfl) (rv rfl rfl) (l_mulL (by omega) (by omega))) rfl) rfl) rfl) (rc rfl) (l_mod (by omega))
    · exact rd_m1 (Ev.rd (rd_bin (Ev.rd (rd_bin (Ev.rd (rd_bin (rv rfl rfl) (rc rfl) (l_mulR (by omega) (by omega))) rfl) (Ev.rd (rd_bin (rv rfl rfl) (rc rfl) (l_fdiv (by omega) (by omega))) rfl) rfl) rfl) (rc rfl) (l_mod (by omega))) rfl) rfl
  · rw [e] at tst
    refine ⟨r % 1009, Int.emod_nonneg _ (by decide), ?_⟩
    refine fn_is (N := 7) (n := 2) (p := p__law_number) (s := ⟨[.val (.frl (iD ns)), .val (.int (k : Nat)), .val (.int c), .val (.int t), .val (.int r), a, .no], hs, []⟩) ?_
    refine st_seq q1 (st_seq q2 (st_seq q3 (st_seqR (st_if tst (fun _ => st_ret ?_) (fun z => by cases z)))))
    exact rd_bin (Ev.rd (rd_m1 (rv rfl rfl) rfl) rfl) (rc rfl) (l_mod (by omega))
end K03

set_option Elab.async false
set_option linter.all false
set_option maxRecDepth 100000
set_option maxHeartbeats 2000000
/-! K03, part P10: windows, in plain words. -/
namespace K03
open PySem Rf
theorem maxL_le {c : Int} : ∀ {l : List Int}, l ≠ [] → (maxL l ≤ c ↔ ∀ y ∈ l, y ≤ c)
  | [], h => absurd rfl h
  | [x], _ => by simp [maxL]
  | x :: y :: r, _ => by
    have ih := maxL_le (c := c) (l := y :: r) (by simp)
    show max x (maxL (y :: r)) ≤ c ↔ _
    rw [Int.max_le, ih]
    simp
theorem upF_pw : ∀ {l : Int} {xs : List Int}, upF l xs = true → xs.Pairwise (· ≤ ·) ∧ ∀ b ∈ xs, l ≤ b
  | _, [], _ => ⟨List.Pairwise.nil, fun b h => by cases h⟩
  | l, x :: r, h => by
    obtain ⟨h1, h3⟩ := (Bool.and_eq_true _ _).mp (show (decide (l ≤ x) && decide (x ≤ 99999) && upF x r) = true from h)
    obtain ⟨h1, h2⟩ := (Bool.and_eq_true _ _).mp h1
    have h1 := of_decide_eq_true h1
    obtain ⟨p, q⟩ := upF_pw h3
    exact ⟨List.Pairwise.cons q p, fun b hb => by
      rcases List.mem_cons.mp hb with rfl | hb
      · exact h1
      · exact Int.le_trans h1 (q b hb)⟩
theorem filter_le {p q : Int → Bool} {l : List Int} {xs : List Int} (hs : l.Sublist xs) (h : ∀ b ∈ l, p b = true → q b = true) : (l.filter p).length ≤ (xs.filter q).length := by
  have e : (l.filter p).filter q = l.filter p := List.filter_eq_self.mpr fun b hb => h b (List.mem_filter.mp hb).1 (List.mem_filter.mp hb).2
  have s : ((l.filter p).filter q).Sublist (xs.filter q) := (List.filter_sublist.trans hs).filter q
  rw [e] at s
  exact s.length_le
theorem pw_head {l : List Int} {a : Int} {r : List Int} (h : l.Pairwise (· ≤ ·)) (e : l = a :: r) : ∀ b ∈ l, a ≤ b := by
  subst e
  intro b hb
  rcases List.mem_cons.mp hb with rfl | hb
  · exact Int.le_refl _
  · exact (List.pairwise_cons.mp h).1 b hb
theorem pw_last {xs : List Int} (h : xs.Pairwise (· ≤ ·)) {i : Nat} (hi : i < xs.length) : ∀ b ∈ xs.take (i + 1), b ≤ xs[i] := by
  intro b hb
  obtain ⟨j, hj, e⟩ := List.getElem_of_mem hb
  rw [List.length_take] at hj
  rw [List.getElem_take] at e
  rw [← e]
  by_cases q : j = i
  · subst q; exact Int.le_refl _
  · exact List.pairwise_iff_getElem.mp h j i (by omega) hi (by omega)
theorem win_a {xs : List Int} {t : Int} (h : xs.Pairwise (· ≤ ·)) (ht : 1 ≤ t) {i : Nat} (hi : i < xs.length) : ∃ a ∈ xs, ((cntAt xs t i : Nat) : Int) ≤ cw xs t a := by
  have hg : xs.getD i 0 = xs[i] := by rw [List.getD_eq_getElem?_getD, List.getElem?_eq_getElem hi]; rfl
  have hm : xs[i] ∈ win (xs.take (i + 1)) xs[i] t := List.mem_filter.mpr ⟨by
    rw [List.mem_take_iff_getElem]
    exact ⟨i, by omega, rfl⟩, decide_eq_true (by omega)⟩
  unfold cntAt
  rw [hg]
  generalize hL : win (xs.take (i + 1)) xs[i] t = L at hm
  cases L with
  | nil => cases hm
  | cons a r =>
    have pw : (win (xs.take (i + 1)) xs[i] t).Pairwise (· ≤ ·) := (h.sublist (List.take_sublist _ _)).filter _
    have ha : a ∈ win (xs.take (i + 1)) xs[i] t := by rw [hL]; exact List.mem_cons_self
    have ha1 := List.mem_filter.mp ha
    refine ⟨a, List.mem_of_mem_take ha1.1, ?_⟩
    have lt := of_decide_eq_true ha1.2
    have := filter_le (p := fun b => decide (xs[i] - t < b)) (q := fun b => decide (a ≤ b) && decide (b < a + t)) (List.take_sublist (i + 1) xs) (fun b hb hp => by
      have b1 : b ∈ win (xs.take (i + 1)) xs[i] t := List.mem_filter.mpr ⟨hb, hp⟩
      have b2 := pw_head pw hL b b1
      have b3 := pw_last h hi b hb
      rw [Bool.and_eq_true, decide_eq_true_eq, decide_eq_true_eq]
      omega)
    rw [← hL]
    unfold cw
    unfold win
    omega
theorem drop_ge {c : Int} : ∀ {xs : List Int}, xs.Pairwise (· ≤ ·) → ∀ b ∈ xs.dropWhile (fun x => decide (x < c)), c ≤ b
  | [], _, b, hb => by cases hb
  | x :: r, h, b, hb => by
    rw [List.dropWhile_cons] at hb
    split at hb
    · exact drop_ge (List.pairwise_cons.mp h).2 b hb
    · rename_i q
      have q : c ≤ x := by simpa using q
      rcases List.mem_cons.mp hb with rfl | hb
      · exact q
      · exact Int.le_trans q ((List.pairwise_cons.mp h).1 b hb)
theorem win_b {xs : List Int} {t : Int} (h : xs.Pairwise (· ≤ ·)) (ht : 1 ≤ t) {a : Int} (ha : a ∈ xs) : ∃ i, i < xs.length ∧ cw xs t a ≤ ((cntAt xs t i : Nat) : Int) := by
  have sp : xs.takeWhile (fun x => decide (x < a + t)) ++ xs.dropWhile (fun x => decide (x < a + t)) = xs := List.takeWhile_append_dropWhile
  generalize hA : xs.takeWhile (fun x => decide (x < a + t)) = A at sp
  have hB := drop_ge (c := a + t) h
  generalize xs.dropWhile (fun x => decide (x < a + t)) = B at sp hB
  have hA2 : ∀ b ∈ A, b < a + t := fun b hb => by
    rw [← hA] at hb
    have := List.all_takeWhile (p := fun x => decide (x < a + t)) (l := xs)
    exact of_decide_eq_true (List.all_eq_true.mp this b hb)
  have aA : a ∈ A := by
    rw [← sp] at ha
    rcases List.mem_append.mp ha with q | q
    · exact q
    · have := hB a q; omega
  have hl : 0 < A.length := List.length_pos_of_mem aA
  have fB : (B.filter fun b => decide (a ≤ b) && decide (b < a + t)) = [] := List.filter_eq_nil_iff.mpr fun b hb => by
    have := hB b hb
    simp
    omega
  have hi : A.length - 1 < xs.length := by rw [← sp, List.length_append]; omega
  have tk : xs.take (A.length - 1 + 1) = A := by
    rw [Nat.sub_add_cancel hl]
    conv => lhs; rw [← sp]
    rw [List.take_left]
  refine ⟨A.length - 1, hi, ?_⟩
  have hx0 : xs[A.length - 1] ∈ xs.take (A.length - 1 + 1) := by
    rw [List.mem_take_iff_getElem]
    exact ⟨A.length - 1, by omega, rfl⟩
  have hx : xs[A.length - 1] ∈ A := Eq.mp (congrArg (fun l => xs[A.length - 1] ∈ l) tk) hx0
  have hx2 := hA2 _ hx
  have hg : xs.getD (A.length - 1) 0 = xs[A.length - 1] := by rw [List.getD_eq_getElem?_getD, List.getElem?_eq_getElem hi]; rfl
  have e : (xs.filter fun b => decide (a ≤ b) && decide (b < a + t)) = A.filter fun b => decide (a ≤ b) && decide (b < a + t) := by
    conv => lhs; rw [← sp]
    rw [List.filter_append, fB, List.append_nil]
  unfold cw cntAt
  rw [hg, tk, e]
  have := filter_le (p := fun b => decide (a ≤ b) && decide (b < a + t)) (q := fun b => decide (xs[A.length - 1] - t < b)) (List.Sublist.refl A) (fun b hb hp => by
    rw [Bool.and_eq_true, decide_eq_true_eq, decide_eq_true_eq] at hp
    rw [decide_eq_true_eq]
    omega)
  unfold win
  omega
theorem areB_iff {xs : List Int} {t m : Int} : areB xs t m = true ↔ ∀ i, i < xs.length → ((cntAt xs t i : Nat) : Int) ≤ m := by
  unfold areB
  rw [List.all_eq_true]
  constructor
  · intro h i hi
    have := h (decide (((cntAt xs t i : Nat) : Int) ≤ m)) (List.mem_map.mpr ⟨i, List.mem_range.mpr hi, rfl⟩)
    exact of_decide_eq_true this
  · intro h b hb
    obtain ⟨i, hi, rfl⟩ := List.mem_map.mp hb
    exact decide_eq_true (h i (List.mem_range.mp hi))
/-- windows that end at a fall and windows that begin at one -/
theorem window {xs : List Int} {t m : Int} (hu : upF 0 xs = true) (ht : 1 ≤ t) (hm : 0 ≤ m) : areB xs t m = decide (lm xs t ≤ m) := by
  have h := (upF_pw hu).1
  have key : areB xs t m = true ↔ lm xs t ≤ m := by
    rw [areB_iff]
    unfold lm
    rw [maxL_le (by simp)]
    constructor
    · intro k y hy
      rcases List.mem_cons.mp hy with rfl | hy
      · exact hm
      · obtain ⟨a, ha, rfl⟩ := List.mem_map.mp hy
        obtain ⟨i, hi, q⟩ := win_b h ht ha
        exact Int.le_trans q (k i hi)
    · intro k i hi
      obtain ⟨a, ha, q⟩ := win_a h ht hi
      exact Int.le_trans q (k _ (List.mem_cons_of_mem _ (List.mem_map.mpr ⟨a, ha, rfl⟩)))
  cases q : areB xs t m
  · symm; rw [decide_eq_false_iff_not]; intro z; rw [key.mpr z] at q; cases q
  · symm; rw [decide_eq_true_eq]; exact key.mp q
/-! places -/
def plP (xs : List Int) (t most : Int) (z : Int) : Bool := decide (most < (cntAt xs t z.toNat : Int))
def plL (xs : List Int) (t most : Int) : List Int := ((List.range xs.length).map fun (i : Nat) => ((i : Nat) : Int)).filter (plP xs t most)
theorem fb_pl (xs : List Int) (t most : Int) : ∀ n i, oN (fbF xs t most n i) = (match ((List.range' i n).map fun (j : Nat) => ((j : Nat) : Int)).filter (plP xs t most) with | [] => .non | z :: _ => .int z)
  | 0, i => rfl
  | n + 1, i => by
    rw [List.range'_succ, List.map_cons, List.filter_cons]
    have e : plP xs t most (i : Nat) = decide (most < (cntAt xs t i : Int)) := rfl
    rw [e]
    show oN (if decide (most < (cntAt xs t i : Int)) = true then some i else fbF xs t most n (i + 1)) = _
    cases decide (most < (cntAt xs t i : Int))
    · simp only [Bool.false_eq_true, if_false]
      exact fb_pl xs t most n (i + 1)
    · rfl
theorem fb_is (xs : List Int) (t most : Int) : oN (fbF xs t most xs.length 0) = (match plL xs t most with | [] => .non | z :: _ => .int z) := by
  rw [fb_pl]
  unfold plL
  rw [List.range_eq_range']
theorem pl_empty (xs : List Int) (t most : Int) : (plL xs t most).isEmpty = areB xs t most := by
  cases q : areB xs t most
  · cases z : plL xs t most with
    | nil =>
      have : areB xs t most = true := areB_iff.mpr fun i hi => by
        have := List.filter_eq_nil_iff.mp z (i : Nat) (List.mem_map.mpr ⟨i, List.mem_range.mpr hi, rfl⟩)
        unfold plP at this
        simpa using this
      rw [this] at q; cases q
    | cons a r => rfl
  · have : plL xs t most = [] := List.filter_eq_nil_iff.mpr fun z hz => by
      obtain ⟨i, hi, rfl⟩ := List.mem_map.mp hz
      have := areB_iff.mp q i (List.mem_range.mp hi)
      unfold plP
      simpa using this
    rw [this]; rfl
end K03

set_option Elab.async false
set_option linter.all false
set_option maxRecDepth 100000
set_option maxHeartbeats 2000000
/-! K03, part P11: the law's steps. -/
namespace K03
open PySem Rf
theorem e_iH {d : D} {xs : List Int} (hd : Sq d xs) {m : M Hd} {s : Stt} (h : Ev m s d) : ∃ J, iH m s = .ok J s ∧ J.slots = [] ∧ (∀ s', J.len s' = (iD xs).length) ∧ (∀ s' i, J.at i s' = some (iD xs)[i]?) := by
  cases hd with
  | lst xs => exact ⟨.lst (.d (.lst (iD xs))), by unfold iH; rw [bnd_ok h]; rfl, rfl, fun _ => rfl, fun _ _ => rfl⟩
  | tup xs => exact ⟨.tup (.d (.tup (iD xs))), by unfold iH; rw [bnd_ok h]; rfl, rfl, fun _ => rfl, fun _ _ => rfl⟩
def inS (v : Nat) (b : D) (acc : List D) (s : Stt) : Stt := ⟨(wipeL s.σ [v]).set v (.val b), s.hs, s.tm ++ [.lst acc]⟩
theorem inS_v {v : Nat} {b : D} {acc : List D} {s : Stt} (hv : v < s.σ.length) : (inS v b acc s).σ[v]? = some (.val b) := List.getElem?_set_self (by rw [wipeL_len]; exact hv)
theorem inS_o {v j : Nat} {b : D} {acc : List D} {s : Stt} (h : j ≠ v) : (inS v b acc s).σ[j]? = s.σ[j]? := by
  show ((wipeL s.σ [v]).set v (.val b))[j]? = _
  rw [List.getElem?_set_ne (Ne.symm h), wipeL_get, if_neg (by simp [h])]
theorem inS_w {v : Nat} {b : D} {acc : List D} {s : Stt} : wipeS [v] (inS v b acc s) = blkS [v] acc s := by
  unfold wipeS blkS inS
  have : wipeL ((wipeL s.σ [v]).set v (.val b)) [v] = wipeL s.σ [v] := by
    show (((s.σ.set v .no).set v _).set v .no) = s.σ.set v .no
    rw [List.set_set, List.set_set]
  rw [this]
theorem inS_len {v : Nat} {b : D} {acc : List D} {s : Stt} : (inS v b acc s).σ.length = s.σ.length := by
  show ((wipeL s.σ [v]).set v (.val b)).length = _
  rw [List.length_set, wipeL_len]
theorem inS_no {v w : Nat} {b : D} {acc : List D} {s : Stt} (h : w ≠ v) (n : noOwn [w] s = true) : noOwn [w] (inS v b acc s) = true := by
  unfold noOwn at n ⊢
  simp only [List.all_cons, List.all_nil, Bool.and_true] at n ⊢
  rw [inS_o h]
  exact n
/-- one name, ints, those that are chosen -/
theorem lc_one {mi : M It} {J : It} {s : Stt} {v : Nat} {c : M Bool} {ys : List Int} (p : Int → Bool) (hmi : mi s = .ok J s) (hs : J.slots = []) (hJ : J.len s = (iD ys).length) (hat : ∀ s' i, J.at i s' = some (iD ys)[i]?) (hl : ys.length ≤ 1000) (hv : v < s.σ.length) (no : noOwn [v] s = true)
    (hc : ∀ b ∈ ys, ∀ acc, c (inS v (.int b) acc s) = .ok (p b) (inS v (.int b) acc s)) : Ev (mVal (nLc mi (tgName v) c (mVar v) [v])) s (.lst (iD (ys.filter p))) := by
  have e := lc_is (t := tgName v) (c := c) (e := mVar v) (vs := [v]) (xs := iD ys) (fI p) hmi (by unfold lcOk; rw [no, hs]; rfl) hJ (by rw [iD_len]; exact hl) (by intro x hx; rw [List.mem_singleton.mp hx]; exact hv) (fun acc i => hat _ i) (fun acc x hx => by
    obtain ⟨b, hb, rfl⟩ := mem_iD hx
    refine ⟨inS v (.int b) acc s, rfl, inS_w, rfl, tn_if (hc b hb acc) (fun _ => ?_)⟩
    have z := evv (s := inS v (.int b) acc s) (inS_v hv)
    unfold mD
    rw [bnd_ok z]
    rfl)
  rw [fI_map] at e
  exact e
theorem item_at {d : D} {xs : List Int} (hd : Sq d xs) {i : Nat} (hi : i < xs.length) : itemD d (.int (i : Nat)) = some (.int xs[i]) := by
  have g : L2.atI (iD xs) ((i : Nat) : Int) = some (.int xs[i]) := by
    unfold L2.atI L2.ixN
    rw [if_pos (by omega), if_pos (by rw [iD_len]; omega)]
    show (iD xs)[_]? = _
    unfold iD
    rw [List.getElem?_map, Int.toNat_natCast, List.getElem?_eq_getElem hi]
    rfl
  cases hd <;> exact g
theorem e_slice {d : D} {xs : List Int} (hd : Sq d xs) {v w : Nat} {s : Stt} {i : Nat} (hi : i < xs.length) (h1 : Rd (mVar v) s d) (h2 : Rd (mVar w) s (.int (i : Nat))) :
    ∃ d', Sq d' (xs.take (i + 1)) ∧ Ev (mSlice (mVar v) none (some (mBin addD (mVar w) (mC (.int 1))))) s d' := by
  have p := part_of (i := ((i + 1 : Nat) : Int)) (Ev.rd (rd_bin h2 (rc rfl) rfl) rfl : Rd (mBin addD (mVar w) (mC (.int 1))) s (.int ((i + 1 : Nat) : Int)))
  have c : cutD (iD xs) none (some ((i + 1 : Nat) : Int)) = iD (xs.take (i + 1)) := by rw [cut_to (α := Nat) _ _ (by rw [iD_len]; omega), take_iD]
  cases hd with
  | lst xs => exact ⟨_, .lst _, rd_slice h1 part_no p (by show some (D.lst (cutD (iD xs) none (some ((i + 1 : Nat) : Int)))) = _; rw [c])⟩
  | tup xs => exact ⟨_, .tup _, rd_slice h1 part_no p (by show some (D.tup (cutD (iD xs) none (some ((i + 1 : Nat) : Int)))) = _; rw [c])⟩
theorem lenO_iD (xs : List Int) : lenO (.lst (iD xs)) = some (.int (xs.length : Nat)) := by show some (D.int ((iD xs).length : Nat)) = _; rw [iD_len]
theorem lenO_sq {d : D} {xs : List Int} (hd : Sq d xs) : lenO d = some (.int (xs.length : Nat)) := by cases hd <;> exact lenO_iD _
/-- [one for one in xs[:place + 1] if one > xs[place] - ticks] -/
theorem e_ones {d : D} {xs : List Int} (hd : Sq d xs) (hl : xs.length ≤ 900) {v p o tk : Nat} {s : Stt} {i : Nat} {t : Int} (hi : i < xs.length) (hv : s.σ[v]? = some (.val d)) (hp : s.σ[p]? = some (.val (.int (i : Nat)))) (ht : s.σ[tk]? = some (.val (.int t))) (ho : o < s.σ.length) (no : noOwn [o] s = true) (vo : v ≠ o) (po : p ≠ o) (to : tk ≠ o) :
    Ev (mVal (nLc (iH (mSlice (mVar v) none (some (mBin addD (mVar p) (mC (.int 1)))))) (tgName o) (mTB (mBin gtD (mVar o) (mBin subD (mBin itemD (mVar v) (mVar p)) (mVar tk)))) (mVar o) [o])) s (.lst (iD (win (xs.take (i + 1)) xs[i] t))) := by
  obtain ⟨d', hd', ev⟩ := e_slice hd hi (rv hv (sq_ub hd _)) (rv hp rfl)
  obtain ⟨J, j1, j2, j3, j4⟩ := e_iH hd' ev
  exact lc_one (fun b => decide (xs[i] - t < b)) j1 j2 (j3 _) j4 (by rw [List.length_take]; omega) ho no fun b hb acc =>
    te_tb (Ev.rd (rd_bin (rv (inS_v ho) rfl) (Ev.rd (rd_bin (Ev.rd (rd_bin (rv ((inS_o vo).trans hv) (sq_ub hd _)) (rv ((inS_o po).trans hp) rfl) (item_at hd hi)) rfl) (rv ((inS_o to).trans ht) rfl) rfl) rfl) rfl) rfl)
theorem rgL_iD (n : Nat) : (List.range n).map (fun i : Nat => D.int (i : Nat)) = iD ((List.range n).map fun i : Nat => ((i : Nat) : Int)) := by unfold iD; rw [List.map_map]; rfl
theorem e_places {d : D} {xs : List Int} (hd : Sq d xs) (hl : xs.length ≤ 900) {v p o tk mo : Nat} {s : Stt} {t most : Int} (hv : s.σ[v]? = some (.val d)) (ht : s.σ[tk]? = some (.val (.int t))) (hm : s.σ[mo]? = some (.val (.int most))) (hpl : p < s.σ.length) (ho : o < s.σ.length) (np : noOwn [p] s = true) (no : noOwn [o] s = true) (vo : v ≠ o) (po : p ≠ o) (to : tk ≠ o) (vp : v ≠ p) (tp : tk ≠ p) (mp : mo ≠ p) :
    Ev (mVal (nLc (iR1 (mDs false [(m1 lenO (mVar v))])) (tgName p) (mTB (mBin gtD (m1 lenO (mVal (nLc (iH (mSlice (mVar v) none (some (mBin addD (mVar p) (mC (.int 1)))))) (tgName o) (mTB (mBin gtD (mVar o) (mBin subD (mBin itemD (mVar v) (mVar p)) (mVar tk)))) (mVar o) [o]))) (mVar mo))) (mVar p) [p])) s (.lst (iD (plL xs t most))) := by
  refine lc_one (plP xs t most) (e_rng1 (rd_m1 (rv hv (sq_ub hd _)) (lenO_sq hd)) (by omega)) rfl (by rw [iD_len, List.length_map, List.length_range]; rfl) (fun s' i => by rw [← rgL_iD, ← rng_at]; rfl) (by rw [List.length_map, List.length_range]; omega) hpl np fun b hb acc => ?_
  obtain ⟨i, hi, rfl⟩ := List.mem_map.mp hb
  have hi := List.mem_range.mp hi
  have e := e_ones hd hl (s := inS p (.int ((i : Nat) : Int)) acc s) (v := v) (p := p) (o := o) (tk := tk) (t := t) hi ((inS_o vp).trans hv) (inS_v hpl) ((inS_o tp).trans ht) (by rw [inS_len]; exact ho) (inS_no (Ne.symm po) no) vo po to
  refine te_tb (Ev.rd (rd_bin (Ev.rd (rd_m1 (Ev.rd e rfl) (lenO_iD _)) rfl) (rv ((inS_o mp).trans hm) rfl) ?_) rfl)
  unfold plP cntAt
  rw [Int.toNat_natCast, List.getD_eq_getElem?_getD, List.getElem?_eq_getElem hi]
  rfl
/-! drawing -/
def bx (ns : List Int) (k : Nat) : D := .lst [.frl (iD ns), .int (k : Nat)]
theorem rdbox {i : Nat} {s : Stt} {c : D} (h : s.σ[i]? = some (.val (.box 0))) (hh : s.hs[0]? = some c) : Rd (mVar i) s c := ⟨.d (.box 0), evv h, hh⟩
theorem e_law_take (ns : List Int) (k : Nat) (n : Nat) (hl : ns.length ≤ 63) (hn : 0 < n) : ∃ r : Nat, r < n ∧ r__law_take [.box 0, .int (n : Nat)] [bx ns k] = .ok (.int (r : Nat)) [bx ns (k + 1)] := by
  obtain ⟨v, hv, q⟩ := e_law_number ns (k + 1) hl [bx ns (k + 1)]
  have h1 : 0 ≤ v % (n : Int) := Int.emod_nonneg _ (by omega)
  have h2 : v % (n : Int) < n := Int.emod_lt_of_pos _ (by omega)
  refine ⟨(v % (n : Int)).toNat, by omega, ?_⟩
  have e : (((v % (n : Int)).toNat : Nat) : Int) = v % (n : Int) := by omega
  rw [e]
  refine fn_is (N := 2) (n := 2) (p := p__law_take) (s := ⟨[.val (.box 0), .val (.int (n : Nat))], [bx ns (k + 1)], []⟩) ?_
  refine st_seq (s' := ⟨[.val (.box 0), .val (.int (n : Nat))], [bx ns (k + 1)], []⟩) rfl (st_ret ?_)
  exact rd_bin (Ev.rd (rd_m1 (Ev.rd (ev_call (as_cons (rd_bin (z := .frl (iD ns)) (rdbox rfl rfl) (rc rfl) rfl) (as_cons (rd_m1 (z := .int ((k + 1 : Nat) : Int)) (Ev.rd (rd_bin (z := .int ((k + 1 : Nat) : Int)) (rdbox rfl rfl) (rc rfl) rfl) rfl) rfl) as_nil)) rfl q) rfl) rfl) rfl) (rv rfl rfl) (l_mod (by omega))
theorem as_cons' {m : M Hd} {r : List (M Hd)} {s s1 s2 : Stt} {d : D} {ds : List D} (h : m s = .ok (.d d) s1) (hr : mDs false r s1 = .ok ds s2) : mDs false (m :: r) s = .ok (d :: ds) s2 := by
  show bnd (mD false m) _ s = _
  have q : mD false m s = .ok d s1 := by unfold mD; rw [bnd_ok h]; rfl
  rw [bnd_ok q, bnd_ok hr]
  rfl
/-- _law_take(draw, n), draw in the second slot -/
theorem e_take {s : Stt} {ns : List Int} {k : Nat} (n : Nat) (hl : ns.length ≤ 63) (hn : 0 < n) (h : s.σ[1]? = some (.val (.box 0))) (hh : s.hs = [bx ns k]) : ∃ r : Nat, r < n ∧ mCall (fun _ => r__law_take) 0 2 (mDs false [(mVar 1), (mC (.int (n : Nat)))]) s = .ok (.d (.int (r : Nat))) { s with hs := [bx ns (k + 1)] } := by
  obtain ⟨r, h1, q⟩ := e_law_take ns k n hl hn
  refine ⟨r, h1, ?_⟩
  unfold mCall
  rw [bnd_ok (as_cons (evv h) (as_cons evc as_nil))]
  show outC (r__law_take [.box 0, .int (n : Nat)] s.hs) s = _
  rw [hh, q]
  rfl
theorem rd_bin2 {op : D → D → Option D} {ma mb : M Hd} {s s1 s2 : Stt} {x y z : D} (ha : ma s = .ok (.d x) s1) (hb : mb s1 = .ok (.d y) s2) (ux : unbox x s2 = some x) (uy : unbox y s2 = some y) (ho : op x y = some z) : mBin op ma mb s = .ok (.d z) s2 := by
  unfold mBin
  rw [bnd_ok ha, bnd_ok hb, bnd_ok (look_ok (h := .d x) ux), bnd_ok (look_ok (h := .d y) uy), bnd_ok (opt_ok ho)]
  rfl
end K03

set_option Elab.async false
set_option linter.all false
set_option maxRecDepth 100000
set_option maxHeartbeats 2000000
/-! K03, part P12: the law's first steps. -/
namespace K03
open PySem Rf
theorem ev_new2 {run : List D → List D → OutI} {c n : Nat} {a : M (List D)} {s s2 : Stt} {ds : List D} {fs : List (Str × D)} (h : a s = .ok ds s2) (ht : s2.tm = s.tm) (hl : ds.length + 1 = n) (hr : run ds s2.hs = .ok fs s2.hs) : mVal (nNew (fun _ => run) c n a) s = .ok (.d (.ins c fs)) s2 := by
  have q : nNew (fun _ => run) c n a s = .ok s2.tm.length { s2 with tm := s2.tm ++ [.ins c fs] } := by
    unfold nNew
    rw [bnd_ok h]
    simp only [hl, if_true, hr]
  unfold mVal
  rw [q]
  simp [popT, ht]
  cases s2
  simp at ht
  rw [ht]
theorem st_set2 {i : Nat} {m : M Hd} {s s2 : Stt} {d : D} (h : m s = .ok (.d d) s2) : sSet i m s = .nx (setS i d s2) := by unfold sSet; rw [sM_ok h]; rfl
theorem law0_is (ns : List Int) : m_law0 ⟨[.val (.frl (iD ns)), .no, .no, .no, .no, .no, .no, .no, .no, .no, .no, .no, .no, .no, .no, .no, .no, .no, .no, .no, .no, .no, .no, .no], [], []⟩ = .nx ⟨[.val (.frl (iD ns)), .val (.box 0), .no, .no, .no, .no, .no, .no, .no, .no, .no, .no, .no, .no, .no, .no, .no, .no, .no, .no, .no, .no, .no, .no], [bx ns 0], []⟩ := by rfl
theorem law1_is (ns : List Int) (hl : ns.length ≤ 63) : ∃ m T : Nat, m < 4 ∧ 1 ≤ T ∧ T ≤ 5 ∧ m_law1 ⟨[.val (.frl (iD ns)), .val (.box 0), .no, .no, .no, .no, .no, .no, .no, .no, .no, .no, .no, .no, .no, .no, .no, .no, .no, .no, .no, .no, .no, .no], [bx ns 0], []⟩ = .nx ⟨[.val (.frl (iD ns)), .val (.box 0), .val (fD (m : Nat) (T : Nat)), .own (.lst (iD [])), .val (.int 0), .no, .no, .no, .no, .no, .no, .no, .no, .no, .no, .no, .no, .no, .no, .no, .no, .no, .no, .no], [bx ns 2], []⟩ := by
  obtain ⟨m, hm, q1⟩ := e_take (s := ⟨[.val (.frl (iD ns)), .val (.box 0), .no, .no, .no, .no, .no, .no, .no, .no, .no, .no, .no, .no, .no, .no, .no, .no, .no, .no, .no, .no, .no, .no], [bx ns 0], []⟩) (ns := ns) (k := 0) 4 hl (by decide) rfl rfl
  obtain ⟨r, hr, q2⟩ := e_take (s := ⟨[.val (.frl (iD ns)), .val (.box 0), .no, .no, .no, .no, .no, .no, .no, .no, .no, .no, .no, .no, .no, .no, .no, .no, .no, .no, .no, .no, .no, .no], [bx ns 1], []⟩) (ns := ns) (k := 1) 5 hl (by decide) rfl rfl
  refine ⟨m, 1 + r, hm, by omega, by omega, ?_⟩
  have c := e_Faults (m : Nat) ((1 + r : Nat) : Int) [bx ns 2] (by omega) (by omega) (by omega) (by omega)
  have ar : mDs false [(mCall (fun _ => r__law_take) 0 2 (mDs false [(mVar 1), (mC (.int 4))])), (mBin addD (mC (.int 1)) (mCall (fun _ => r__law_take) 0 2 (mDs false [(mVar 1), (mC (.int 5))])))] ⟨[.val (.frl (iD ns)), .val (.box 0), .no, .no, .no, .no, .no, .no, .no, .no, .no, .no, .no, .no, .no, .no, .no, .no, .no, .no, .no, .no, .no, .no], [bx ns 0], []⟩ = .ok [.int (m : Nat), .int ((1 + r : Nat) : Int)] ⟨[.val (.frl (iD ns)), .val (.box 0), .no, .no, .no, .no, .no, .no, .no, .no, .no, .no, .no, .no, .no, .no, .no, .no, .no, .no, .no, .no, .no, .no], [bx ns 2], []⟩ :=
    as_cons' q1 (as_cons' (rd_bin2 (y := .int (r : Nat)) (z := .int ((1 + r : Nat) : Int)) evc q2 rfl rfl (by show some (D.int (1 + (r : Int))) = _; rw [Int.natCast_add]; rfl)) as_nil)
  have nw := ev_new2 (c := 3) (n := 3) ar rfl rfl c
  unfold m_law1 sPar
  have el : mEls [.v (mVal (nNew (fun _ => i_Faults) 3 3 (mDs false [(mCall (fun _ => r__law_take) 0 2 (mDs false [(mVar 1), (mC (.int 4))])), (mBin addD (mC (.int 1)) (mCall (fun _ => r__law_take) 0 2 (mDs false [(mVar 1), (mC (.int 5))])))]))), .f (nLst (mDs false [])), .v (mC (.int 0))] ⟨[.val (.frl (iD ns)), .val (.box 0), .no, .no, .no, .no, .no, .no, .no, .no, .no, .no, .no, .no, .no, .no, .no, .no, .no, .no, .no, .no, .no, .no], [bx ns 0], []⟩ = .ok [.d (fD (m : Nat) ((1 + r : Nat) : Int)), .t 0, .d (.int 0)] { (⟨[.val (.frl (iD ns)), .val (.box 0), .no, .no, .no, .no, .no, .no, .no, .no, .no, .no, .no, .no, .no, .no, .no, .no, .no, .no, .no, .no, .no, .no], [bx ns 2], []⟩ : Stt) with tm := [.lst []] } := by
    show bnd (mEl (.v _)) _ _ = _
    rw [bnd_ok (show mEl (.v _) _ = .ok (.d (fD (m : Nat) ((1 + r : Nat) : Int))) ⟨[.val (.frl (iD ns)), .val (.box 0), .no, .no, .no, .no, .no, .no, .no, .no, .no, .no, .no, .no, .no, .no, .no, .no, .no, .no, .no, .no, .no, .no], [bx ns 2], []⟩ from by show bnd _ _ _ = _; rw [bnd_ok nw]; rfl)]
    rfl
  rw [sM_ok el]
  rfl
/-! the falls -/
def endF : Int → List Int → Int
  | l, [] => l
  | _, x :: r => endF x r
theorem endF_app : ∀ (l : Int) (xs : List Int) (x : Int), endF l (xs ++ [x]) = x
  | _, [], _ => rfl
  | _, y :: r, x => endF_app y r x
theorem upF_app : ∀ {l : Int} {xs : List Int} {x : Int}, upF l xs = true → endF l xs ≤ x → x ≤ 99999 → upF l (xs ++ [x]) = true
  | l, [], x, _, h1, h2 => by
    show (decide (l ≤ x) && decide (x ≤ 99999) && true) = true
    rw [decide_eq_true (show l ≤ x from h1), decide_eq_true h2]; rfl
  | l, y :: r, x, h, h1, h2 => by
    obtain ⟨a, b⟩ := (Bool.and_eq_true _ _).mp (show (decide (l ≤ y) && decide (y ≤ 99999) && upF y r) = true from h)
    show (decide (l ≤ y) && decide (y ≤ 99999) && upF y (r ++ [x])) = true
    rw [a, upF_app b h1 h2]; rfl
theorem iD_app (xs : List Int) (x : Int) : iD xs ++ [.int x] = iD (xs ++ [x]) := by unfold iD; rw [List.map_append]; rfl
theorem law2_is (ns : List Int) (hl : ns.length ≤ 63) (m T : Nat) : ∃ (xs : List Int) (l : Int) (k : Nat) (a : Sl), xs.length ≤ 8 ∧ upF 0 xs = true ∧ m_law2 ⟨[.val (.frl (iD ns)), .val (.box 0), .val (fD (m : Nat) (T : Nat)), .own (.lst (iD [])), .val (.int 0), .no, .no, .no, .no, .no, .no, .no, .no, .no, .no, .no, .no, .no, .no, .no, .no, .no, .no, .no], [bx ns 2], []⟩ = .nx ⟨[.val (.frl (iD ns)), .val (.box 0), .val (fD (m : Nat) (T : Nat)), .own (.lst (iD xs)), .val (.int l), a, .no, .no, .no, .no, .no, .no, .no, .no, .no, .no, .no, .no, .no, .no, .no, .no, .no, .no], [bx ns k], []⟩ := by
  obtain ⟨n, hn, q1⟩ := e_take (s := ⟨[.val (.frl (iD ns)), .val (.box 0), .val (fD (m : Nat) (T : Nat)), .own (.lst (iD [])), .val (.int 0), .no, .no, .no, .no, .no, .no, .no, .no, .no, .no, .no, .no, .no, .no, .no, .no, .no, .no, .no], [bx ns 2], []⟩) (ns := ns) (k := 2) 9 hl (by decide) rfl rfl
  have it : iR1 (mDs false [(mCall (fun _ => r__law_take) 0 2 (mDs false [(mVar 1), (mC (.int 9))]))]) ⟨[.val (.frl (iD ns)), .val (.box 0), .val (fD (m : Nat) (T : Nat)), .own (.lst (iD [])), .val (.int 0), .no, .no, .no, .no, .no, .no, .no, .no, .no, .no, .no, .no, .no, .no, .no, .no, .no, .no, .no], [bx ns 2], []⟩ = .ok (.rng 0 n) ⟨[.val (.frl (iD ns)), .val (.box 0), .val (fD (m : Nat) (T : Nat)), .own (.lst (iD [])), .val (.int 0), .no, .no, .no, .no, .no, .no, .no, .no, .no, .no, .no, .no, .no, .no, .no, .no, .no, .no, .no], [bx ns 3], []⟩ := by
    have ar : mDs false [(mCall (fun _ => r__law_take) 0 2 (mDs false [(mVar 1), (mC (.int 9))]))] ⟨[.val (.frl (iD ns)), .val (.box 0), .val (fD (m : Nat) (T : Nat)), .own (.lst (iD [])), .val (.int 0), .no, .no, .no, .no, .no, .no, .no, .no, .no, .no, .no, .no, .no, .no, .no, .no, .no, .no, .no], [bx ns 2], []⟩ = .ok [.int (n : Nat)] ⟨[.val (.frl (iD ns)), .val (.box 0), .val (fD (m : Nat) (T : Nat)), .own (.lst (iD [])), .val (.int 0), .no, .no, .no, .no, .no, .no, .no, .no, .no, .no, .no, .no, .no, .no, .no, .no, .no, .no, .no], [bx ns 3], []⟩ := as_cons' q1 as_nil
    unfold iR1
    rw [bnd_ok ar]
    show (if smallI (n : Int) = true then Rf.ret (It.rng 0 (n : Int).toNat) else Rf.bad) _ = _
    rw [if_pos (by unfold smallI; rw [decide_eq_true_eq]; omega)]
    rfl
  refine for_post (xs := (List.range n).map fun i : Nat => D.int (i : Nat)) (fun i s => ∃ (xs : List Int) (l : Int) (k : Nat) (a : Sl), s = ⟨[.val (.frl (iD ns)), .val (.box 0), .val (fD (m : Nat) (T : Nat)), .own (.lst (iD xs)), .val (.int l), a, .no, .no, .no, .no, .no, .no, .no, .no, .no, .no, .no, .no, .no, .no, .no, .no, .no, .no], [bx ns k], []⟩ ∧ xs.length = i ∧ upF 0 xs = true ∧ endF 0 xs = l ∧ 0 ≤ l ∧ l ≤ 2 * i)
    (fun r => ∃ (xs : List Int) (l : Int) (k : Nat) (a : Sl), xs.length ≤ 8 ∧ upF 0 xs = true ∧ r = .nx ⟨[.val (.frl (iD ns)), .val (.box 0), .val (fD (m : Nat) (T : Nat)), .own (.lst (iD xs)), .val (.int l), a, .no, .no, .no, .no, .no, .no, .no, .no, .no, .no, .no, .no, .no, .no, .no, .no, .no, .no], [bx ns k], []⟩) it rfl (by rw [List.length_map, List.length_range]; rfl) (fun i s _ => by rw [← rng_at]; rfl) (fun i x s hx ⟨xs, l, k, a, e, h1, h2, h3, h4, h5⟩ => ?_) (fun s ⟨xs, l, k, a, e, h1, h2, h3, h4, h5⟩ => ?_) ⟨[], 0, 3, .no, rfl, rfl, rfl, rfl, Int.le_refl _, by omega⟩
  · subst e
    have hi : i < n := by
      have := (List.getElem?_eq_some_iff.mp hx).1
      simpa using this
    refine ⟨⟨[.val (.frl (iD ns)), .val (.box 0), .val (fD (m : Nat) (T : Nat)), .own (.lst (iD xs)), .val (.int l), .val x, .no, .no, .no, .no, .no, .no, .no, .no, .no, .no, .no, .no, .no, .no, .no, .no, .no, .no], [bx ns k], []⟩, rfl, ?_⟩
    obtain ⟨r, hr, q⟩ := e_take (s := ⟨[.val (.frl (iD ns)), .val (.box 0), .val (fD (m : Nat) (T : Nat)), .own (.lst (iD xs)), .val (.int l), .val x, .no, .no, .no, .no, .no, .no, .no, .no, .no, .no, .no, .no, .no, .no, .no, .no, .no, .no], [bx ns k], []⟩) (ns := ns) (k := k) 3 hl (by decide) rfl rfl
    refine .inl ⟨⟨[.val (.frl (iD ns)), .val (.box 0), .val (fD (m : Nat) (T : Nat)), .own (.lst (iD (xs ++ [l + (r : Nat)]))), .val (.int (l + (r : Nat))), .val x, .no, .no, .no, .no, .no, .no, .no, .no, .no, .no, .no, .no, .no, .no, .no, .no, .no, .no], [bx ns (k + 1)], []⟩, ?_, xs ++ [l + (r : Nat)], l + (r : Nat), k + 1, .val x, rfl, by rw [List.length_append, h1]; rfl, upF_app h2 (by rw [h3]; omega) (by omega), endF_app _ _ _, by omega, by omega⟩
    refine st_seq (st_set2 (rd_bin2 (z := .int (l + (r : Nat))) (evv rfl) q rfl rfl rfl)) ?_
    have ap := e_app (i := 3) (ys := iD xs) (y := .int (l + (r : Nat))) (ms := mDs false [(mVar 4)]) (s := ⟨[.val (.frl (iD ns)), .val (.box 0), .val (fD (m : Nat) (T : Nat)), .own (.lst (iD xs)), .val (.int (l + (r : Nat))), .val x, .no, .no, .no, .no, .no, .no, .no, .no, .no, .no, .no, .no, .no, .no, .no, .no, .no, .no], [bx ns (k + 1)], []⟩) rfl (as_cons (evv rfl) as_nil) (by rw [iD_len]; omega)
    rw [iD_app] at ap
    unfold sDrop
    exact (sM_ok ap).trans rfl
  · exact ⟨xs, l, k, a, by rw [List.length_map, List.length_range] at h1; omega, h2, by rw [e]⟩
theorem ne_bl (a b : Bool) : nevD (.bl a) (.bl b) = some (.bl (!(a == b))) := by rfl
theorem ne_int (a b : Int) : nevD (.int a) (.int b) = some (.bl (!(a == b))) := by rfl
theorem law3_is (ns xs : List Int) (m T : Nat) (hT : 1 ≤ T) (hx : xs.length ≤ 8) (hu : upF 0 xs = true) (l : Int) (k : Nat) (a : Sl) : m_law3 ⟨[.val (.frl (iD ns)), .val (.box 0), .val (fD (m : Nat) (T : Nat)), .own (.lst (iD xs)), .val (.int l), a, .no, .no, .no, .no, .no, .no, .no, .no, .no, .no, .no, .no, .no, .no, .no, .no, .no, .no], [bx ns k], []⟩ = .nx ⟨[.val (.frl (iD ns)), .val (.box 0), .val (fD (m : Nat) (T : Nat)), .val (.lst (iD xs)), .val (.int l), a, .no, .no, .no, .no, .no, .no, .no, .no, .no, .no, .no, .no, .no, .no, .no, .no, .no, .no], [bx ns k], []⟩ := by
  have c1 := e_are_within (.tup xs) hu (by omega) (m : Nat) (T : Nat) [bx ns k]
  have c2 := e_law_most (.lst xs) (by omega) (T : Nat) [bx ns k]
  have w := window hu (t := (T : Nat)) (m := (m : Nat)) (by omega) (by omega)
  have e1 : mCall (fun _ => r_are_within) 0 2 (mDs false [(mVar 2), (m1 tupO (mVar 3))]) ⟨[.val (.frl (iD ns)), .val (.box 0), .val (fD (m : Nat) (T : Nat)), .own (.lst (iD xs)), .val (.int l), a, .no, .no, .no, .no, .no, .no, .no, .no, .no, .no, .no, .no, .no, .no, .no, .no, .no, .no], [bx ns k], []⟩ = .ok (.d (.bl (areB xs (T : Nat) (m : Nat)))) ⟨[.val (.frl (iD ns)), .val (.box 0), .val (fD (m : Nat) (T : Nat)), .own (.lst (iD xs)), .val (.int l), a, .no, .no, .no, .no, .no, .no, .no, .no, .no, .no, .no, .no, .no, .no, .no, .no, .no, .no], [bx ns k], []⟩ :=
    ev_call (as_cons (evv rfl) (as_cons (rd_m1 (z := .tup (iD xs)) (ro (d := .lst (iD xs)) rfl) rfl) as_nil)) rfl c1
  have fr : mD false (mVar 3) ⟨[.val (.frl (iD ns)), .val (.box 0), .val (fD (m : Nat) (T : Nat)), .own (.lst (iD xs)), .val (.int l), a, .no, .no, .no, .no, .no, .no, .no, .no, .no, .no, .no, .no, .no, .no, .no, .no, .no, .no], [bx ns k], []⟩ = .ok (.lst (iD xs)) ⟨[.val (.frl (iD ns)), .val (.box 0), .val (fD (m : Nat) (T : Nat)), .val (.lst (iD xs)), .val (.int l), a, .no, .no, .no, .no, .no, .no, .no, .no, .no, .no, .no, .no, .no, .no, .no, .no, .no, .no], [bx ns k], []⟩ := by rfl
  have tk : Ev (mFld gd "ticks" (mVar 2)) ⟨[.val (.frl (iD ns)), .val (.box 0), .val (fD (m : Nat) (T : Nat)), .val (.lst (iD xs)), .val (.int l), a, .no, .no, .no, .no, .no, .no, .no, .no, .no, .no, .no, .no, .no, .no, .no, .no, .no, .no], [bx ns k], []⟩ (.int (T : Nat)) := rd_fld (c := 3) (rv rfl rfl) rfl rfl
  have mn : Ev (mFld gd "many" (mVar 2)) ⟨[.val (.frl (iD ns)), .val (.box 0), .val (fD (m : Nat) (T : Nat)), .val (.lst (iD xs)), .val (.int l), a, .no, .no, .no, .no, .no, .no, .no, .no, .no, .no, .no, .no, .no, .no, .no, .no, .no, .no], [bx ns k], []⟩ (.int (m : Nat)) := rd_fld (c := 3) (rv rfl rfl) rfl rfl
  have ar : mDs false [(mVar 3), (mFld gd "ticks" (mVar 2))] ⟨[.val (.frl (iD ns)), .val (.box 0), .val (fD (m : Nat) (T : Nat)), .own (.lst (iD xs)), .val (.int l), a, .no, .no, .no, .no, .no, .no, .no, .no, .no, .no, .no, .no, .no, .no, .no, .no, .no, .no], [bx ns k], []⟩ = .ok [.lst (iD xs), .int (T : Nat)] ⟨[.val (.frl (iD ns)), .val (.box 0), .val (fD (m : Nat) (T : Nat)), .val (.lst (iD xs)), .val (.int l), a, .no, .no, .no, .no, .no, .no, .no, .no, .no, .no, .no, .no, .no, .no, .no, .no, .no, .no], [bx ns k], []⟩ := by
    show bnd (mD false (mVar 3)) _ _ = _
    rw [bnd_ok fr, bnd_ok (as_cons tk as_nil)]
    rfl
  have e2 : mCall (fun _ => r__law_most) 0 2 (mDs false [(mVar 3), (mFld gd "ticks" (mVar 2))]) ⟨[.val (.frl (iD ns)), .val (.box 0), .val (fD (m : Nat) (T : Nat)), .own (.lst (iD xs)), .val (.int l), a, .no, .no, .no, .no, .no, .no, .no, .no, .no, .no, .no, .no, .no, .no, .no, .no, .no, .no], [bx ns k], []⟩ = .ok (.d (.int (lm xs (T : Nat)))) ⟨[.val (.frl (iD ns)), .val (.box 0), .val (fD (m : Nat) (T : Nat)), .val (.lst (iD xs)), .val (.int l), a, .no, .no, .no, .no, .no, .no, .no, .no, .no, .no, .no, .no, .no, .no, .no, .no, .no, .no], [bx ns k], []⟩ := by
    unfold mCall
    rw [bnd_ok ar]
    show outC (r__law_most [.lst (iD xs), .int (T : Nat)] [bx ns k]) _ = _
    rw [c2]
    rfl
  have e3 := rd_bin2 (op := leD) (z := .bl (decide (lm xs (T : Nat) ≤ (m : Nat)))) e2 mn rfl rfl rfl
  have e4 := rd_bin2 (op := nevD) e1 e3 rfl rfl (ne_bl _ _)
  unfold m_law3 sIf
  have tst : mTB (mBin nevD (mCall (fun _ => r_are_within) 0 2 (mDs false [(mVar 2), (m1 tupO (mVar 3))])) (mBin leD (mCall (fun _ => r__law_most) 0 2 (mDs false [(mVar 3), (mFld gd "ticks" (mVar 2))])) (mFld gd "many" (mVar 2)))) ⟨[.val (.frl (iD ns)), .val (.box 0), .val (fD (m : Nat) (T : Nat)), .own (.lst (iD xs)), .val (.int l), a, .no, .no, .no, .no, .no, .no, .no, .no, .no, .no, .no, .no, .no, .no, .no, .no, .no, .no], [bx ns k], []⟩ = .ok (!(areB xs (T : Nat) (m : Nat) == decide (lm xs (T : Nat) ≤ (m : Nat)))) ⟨[.val (.frl (iD ns)), .val (.box 0), .val (fD (m : Nat) (T : Nat)), .val (.lst (iD xs)), .val (.int l), a, .no, .no, .no, .no, .no, .no, .no, .no, .no, .no, .no, .no, .no, .no, .no, .no, .no, .no], [bx ns k], []⟩ := by
    unfold mTB
    rw [bnd_ok e4]
    rfl
  rw [sM_ok tst, w]
  simp
  rfl
end K03

set_option Elab.async false
set_option linter.all false
set_option maxRecDepth 100000
set_option maxHeartbeats 2000000
/-! K03, part P13: the law's next steps. -/
namespace K03
open PySem Rf
theorem law4_is (ns xs : List Int) (hl : ns.length ≤ 63) (m T : Nat) (l : Int) (k : Nat) (a : Sl) : ∃ q t : Nat, q < 4 ∧ 1 ≤ t ∧ t ≤ 6 ∧ m_law4 ⟨[.val (.frl (iD ns)), .val (.box 0), .val (fD (m : Nat) (T : Nat)), .val (.lst (iD xs)), .val (.int l), a, .no, .no, .no, .no, .no, .no, .no, .no, .no, .no, .no, .no, .no, .no, .no, .no, .no, .no], [bx ns k], []⟩ = .nx ⟨[.val (.frl (iD ns)), .val (.box 0), .val (fD (m : Nat) (T : Nat)), .val (.lst (iD xs)), .val (.int l), a, .val (.int (q : Nat)), .val (.int (t : Nat)), .no, .no, .no, .no, .no, .no, .no, .no, .no, .no, .no, .no, .no, .no, .no, .no], [bx ns (k + 2)], []⟩ := by
  obtain ⟨q, hq, q1⟩ := e_take (s := ⟨[.val (.frl (iD ns)), .val (.box 0), .val (fD (m : Nat) (T : Nat)), .val (.lst (iD xs)), .val (.int l), a, .no, .no, .no, .no, .no, .no, .no, .no, .no, .no, .no, .no, .no, .no, .no, .no, .no, .no], [bx ns k], []⟩) (ns := ns) (k := k) 4 hl (by decide) rfl rfl
  obtain ⟨r, hr, q2⟩ := e_take (s := ⟨[.val (.frl (iD ns)), .val (.box 0), .val (fD (m : Nat) (T : Nat)), .val (.lst (iD xs)), .val (.int l), a, .no, .no, .no, .no, .no, .no, .no, .no, .no, .no, .no, .no, .no, .no, .no, .no, .no, .no], [bx ns (k + 1)], []⟩) (ns := ns) (k := k + 1) 6 hl (by decide) rfl rfl
  refine ⟨q, 1 + r, hq, by omega, by omega, ?_⟩
  have q3 : mBin addD (mC (.int 1)) (mCall (fun _ => r__law_take) 0 2 (mDs false [(mVar 1), (mC (.int 6))])) ⟨[.val (.frl (iD ns)), .val (.box 0), .val (fD (m : Nat) (T : Nat)), .val (.lst (iD xs)), .val (.int l), a, .no, .no, .no, .no, .no, .no, .no, .no, .no, .no, .no, .no, .no, .no, .no, .no, .no, .no], [bx ns (k + 1)], []⟩ = .ok (.d (.int ((1 + r : Nat) : Int))) ⟨[.val (.frl (iD ns)), .val (.box 0), .val (fD (m : Nat) (T : Nat)), .val (.lst (iD xs)), .val (.int l), a, .no, .no, .no, .no, .no, .no, .no, .no, .no, .no, .no, .no, .no, .no, .no, .no, .no, .no], [bx ns (k + 2)], []⟩ :=
    rd_bin2 (y := .int (r : Nat)) (z := .int ((1 + r : Nat) : Int)) evc q2 rfl rfl (by show some (D.int (1 + (r : Int))) = _; rw [Int.natCast_add]; rfl)
  have el : mEls [.v (mCall (fun _ => r__law_take) 0 2 (mDs false [(mVar 1), (mC (.int 4))])), .v (mBin addD (mC (.int 1)) (mCall (fun _ => r__law_take) 0 2 (mDs false [(mVar 1), (mC (.int 6))])))] ⟨[.val (.frl (iD ns)), .val (.box 0), .val (fD (m : Nat) (T : Nat)), .val (.lst (iD xs)), .val (.int l), a, .no, .no, .no, .no, .no, .no, .no, .no, .no, .no, .no, .no, .no, .no, .no, .no, .no, .no], [bx ns k], []⟩ = .ok [.d (.int (q : Nat)), .d (.int ((1 + r : Nat) : Int))] ⟨[.val (.frl (iD ns)), .val (.box 0), .val (fD (m : Nat) (T : Nat)), .val (.lst (iD xs)), .val (.int l), a, .no, .no, .no, .no, .no, .no, .no, .no, .no, .no, .no, .no, .no, .no, .no, .no, .no, .no], [bx ns (k + 2)], []⟩ := by
    have q1' : mCall (fun _ => r__law_take) 0 2 (mDs false [(mVar 1), (mC (.int 4))]) ⟨[.val (.frl (iD ns)), .val (.box 0), .val (fD (m : Nat) (T : Nat)), .val (.lst (iD xs)), .val (.int l), a, .no, .no, .no, .no, .no, .no, .no, .no, .no, .no, .no, .no, .no, .no, .no, .no, .no, .no], [bx ns k], []⟩ = .ok (.d (.int (q : Nat))) ⟨[.val (.frl (iD ns)), .val (.box 0), .val (fD (m : Nat) (T : Nat)), .val (.lst (iD xs)), .val (.int l), a, .no, .no, .no, .no, .no, .no, .no, .no, .no, .no, .no, .no, .no, .no, .no, .no, .no, .no], [bx ns (k + 1)], []⟩ := q1
    show bnd (mEl (.v _)) _ _ = _
    rw [bnd_ok (show mEl (.v _) _ = .ok (.d (.int (q : Nat))) ⟨[.val (.frl (iD ns)), .val (.box 0), .val (fD (m : Nat) (T : Nat)), .val (.lst (iD xs)), .val (.int l), a, .no, .no, .no, .no, .no, .no, .no, .no, .no, .no, .no, .no, .no, .no, .no, .no, .no, .no], [bx ns (k + 1)], []⟩ from by show bnd _ _ _ = _; rw [bnd_ok q1']; rfl)]
    show bnd (bnd (mEl (.v _)) _) _ _ = _
    rw [bnd_ok (show bnd (mEl (.v _)) _ _ = .ok [.d (.int ((1 + r : Nat) : Int))] ⟨[.val (.frl (iD ns)), .val (.box 0), .val (fD (m : Nat) (T : Nat)), .val (.lst (iD xs)), .val (.int l), a, .no, .no, .no, .no, .no, .no, .no, .no, .no, .no, .no, .no, .no, .no, .no, .no, .no, .no], [bx ns (k + 2)], []⟩ from by
      rw [bnd_ok (show mEl (.v _) _ = .ok (.d (.int ((1 + r : Nat) : Int))) ⟨[.val (.frl (iD ns)), .val (.box 0), .val (fD (m : Nat) (T : Nat)), .val (.lst (iD xs)), .val (.int l), a, .no, .no, .no, .no, .no, .no, .no, .no, .no, .no, .no, .no, .no, .no, .no, .no, .no, .no], [bx ns (k + 2)], []⟩ from by show bnd _ _ _ = _; rw [bnd_ok q3]; rfl)]; rfl)]
    rfl
  unfold m_law4 sPar
  rw [sM_ok el]
  rfl
theorem law5_is (ns xs : List Int) (m T : Nat) (l : Int) (k : Nat) (a : Sl) (q t : Nat) (hx : xs.length ≤ 8) : m_law5 ⟨[.val (.frl (iD ns)), .val (.box 0), .val (fD (m : Nat) (T : Nat)), .val (.lst (iD xs)), .val (.int l), a, .val (.int (q : Nat)), .val (.int (t : Nat)), .no, .no, .no, .no, .no, .no, .no, .no, .no, .no, .no, .no, .no, .no, .no, .no], [bx ns k], []⟩ = .nx ⟨[.val (.frl (iD ns)), .val (.box 0), .val (fD (m : Nat) (T : Nat)), .val (.lst (iD xs)), .val (.int l), a, .val (.int (q : Nat)), .val (.int (t : Nat)), .val (.lst (iD (plL xs (t : Nat) (q : Nat)))), .no, .no, .no, .no, .no, .no, .no, .no, .no, .no, .no, .no, .no, .no, .no], [bx ns k], []⟩ :=
  st_set (e_places (.lst xs) (by omega) (s := ⟨[.val (.frl (iD ns)), .val (.box 0), .val (fD (m : Nat) (T : Nat)), .val (.lst (iD xs)), .val (.int l), a, .val (.int (q : Nat)), .val (.int (t : Nat)), .no, .no, .no, .no, .no, .no, .no, .no, .no, .no, .no, .no, .no, .no, .no, .no], [bx ns k], []⟩) (v := 3) (p := 9) (o := 10) (tk := 7) (mo := 6) rfl rfl rfl (by simp) (by simp) rfl rfl (by decide) (by decide) (by decide) (by decide) (by decide) (by decide))
theorem eq_nilL (xs : List Int) : eqvD (.lst (iD xs)) (.lst []) = some (.bl xs.isEmpty) := by
  unfold eqvD eqD
  have a : D.flat (.lst (iD xs)) 40 = true := by unfold D.flat; rw [flats_iD]; rfl
  have b : D.flat (.lst []) 40 = true := by rfl
  rw [a, b]
  cases xs <;> rfl
theorem law6_is (ns xs : List Int) (m T : Nat) (l : Int) (k : Nat) (a : Sl) (q t : Nat) (hx : xs.length ≤ 8) (hu : upF 0 xs = true) (hq : q < 4) (h1 : 1 ≤ t) (h2 : t ≤ 6) : m_law6 ⟨[.val (.frl (iD ns)), .val (.box 0), .val (fD (m : Nat) (T : Nat)), .val (.lst (iD xs)), .val (.int l), a, .val (.int (q : Nat)), .val (.int (t : Nat)), .val (.lst (iD (plL xs (t : Nat) (q : Nat)))), .no, .no, .no, .no, .no, .no, .no, .no, .no, .no, .no, .no, .no, .no, .no], [bx ns k], []⟩ = .nx ⟨[.val (.frl (iD ns)), .val (.box 0), .val (fD (m : Nat) (T : Nat)), .val (.lst (iD xs)), .val (.int l), a, .val (.int (q : Nat)), .val (.int (t : Nat)), .val (.lst (iD (plL xs (t : Nat) (q : Nat)))), .no, .no, .no, .no, .no, .no, .no, .no, .no, .no, .no, .no, .no, .no, .no], [bx ns k], []⟩ := by
  have c1 := e_first_beyond (.lst xs) hu (by omega) (q : Nat) (t : Nat) [bx ns k] (by omega) (by omega) (by omega) (by omega)
  have c2 := e_law_most (.lst xs) (by omega) (t : Nat) [bx ns k]
  have w := window hu (t := (t : Nat)) (m := (q : Nat)) (by omega) (by omega)
  have pe := pl_empty xs (t : Nat) (q : Nat)
  have fb := fb_is xs (t : Nat) (q : Nat)
  have t0 : mTB (mBin nevD (mVar 8) (mLst (mDs false []))) ⟨[.val (.frl (iD ns)), .val (.box 0), .val (fD (m : Nat) (T : Nat)), .val (.lst (iD xs)), .val (.int l), a, .val (.int (q : Nat)), .val (.int (t : Nat)), .val (.lst (iD (plL xs (t : Nat) (q : Nat)))), .no, .no, .no, .no, .no, .no, .no, .no, .no, .no, .no, .no, .no, .no, .no], [bx ns k], []⟩ = .ok (!(plL xs (t : Nat) (q : Nat)).isEmpty) ⟨[.val (.frl (iD ns)), .val (.box 0), .val (fD (m : Nat) (T : Nat)), .val (.lst (iD xs)), .val (.int l), a, .val (.int (q : Nat)), .val (.int (t : Nat)), .val (.lst (iD (plL xs (t : Nat) (q : Nat)))), .no, .no, .no, .no, .no, .no, .no, .no, .no, .no, .no, .no, .no, .no, .no], [bx ns k], []⟩ :=
    te_tb (Ev.rd (rd_bin (rv rfl rfl) (Ev.rd (ev_lst as_nil (by decide)) rfl) (nev_nilL _)) rfl)
  have t1 : mTB (mBin nevD (mCall (fun _ => r_first_beyond) 0 3 (mDs false [(mVar 6), (mVar 7), (mVar 3)])) (mIf (mTB (mBin nevD (mVar 8) (mLst (mDs false [])))) (mBin itemD (mVar 8) (mC (.int 0))) (mC .non))) ⟨[.val (.frl (iD ns)), .val (.box 0), .val (fD (m : Nat) (T : Nat)), .val (.lst (iD xs)), .val (.int l), a, .val (.int (q : Nat)), .val (.int (t : Nat)), .val (.lst (iD (plL xs (t : Nat) (q : Nat)))), .no, .no, .no, .no, .no, .no, .no, .no, .no, .no, .no, .no, .no, .no, .no], [bx ns k], []⟩ = .ok false ⟨[.val (.frl (iD ns)), .val (.box 0), .val (fD (m : Nat) (T : Nat)), .val (.lst (iD xs)), .val (.int l), a, .val (.int (q : Nat)), .val (.int (t : Nat)), .val (.lst (iD (plL xs (t : Nat) (q : Nat)))), .no, .no, .no, .no, .no, .no, .no, .no, .no, .no, .no, .no, .no, .no, .no], [bx ns k], []⟩ := by
    have a1 : Ev (mCall (fun _ => r_first_beyond) 0 3 (mDs false [(mVar 6), (mVar 7), (mVar 3)])) ⟨[.val (.frl (iD ns)), .val (.box 0), .val (fD (m : Nat) (T : Nat)), .val (.lst (iD xs)), .val (.int l), a, .val (.int (q : Nat)), .val (.int (t : Nat)), .val (.lst (iD (plL xs (t : Nat) (q : Nat)))), .no, .no, .no, .no, .no, .no, .no, .no, .no, .no, .no, .no, .no, .no, .no], [bx ns k], []⟩ (oN (fbF xs (t : Nat) (q : Nat) xs.length 0)) := ev_call (as_cons (evv rfl) (as_cons (evv rfl) (as_cons (evv rfl) as_nil))) rfl c1
    rw [fb] at a1
    cases hp : plL xs (t : Nat) (q : Nat) with
    | nil =>
      rw [hp] at a1 t0
      exact te_tb (Ev.rd (rd_bin (Ev.rd a1 rfl) (Ev.rd (ev_if t0 (fun z => by cases z) (fun _ => evc)) rfl) rfl) rfl)
    | cons z r =>
      rw [hp] at a1 t0
      have nz : nevD (.int z) (.int z) = some (.bl false) := by rw [ne_int]; simp
      exact te_tb (Ev.rd (rd_bin (Ev.rd a1 rfl) (Ev.rd (ev_if t0 (fun _ => rd_bin (rv (d := .lst (iD (z :: r))) rfl rfl) (rc rfl) (item_at (.lst (z :: r)) (i := 0) (by simp))) (fun z => by cases z)) rfl) nz) rfl)
  have t2 : mTB (mBin nevD (mBin eqvD (mVar 8) (mLst (mDs false []))) (mBin leD (mCall (fun _ => r__law_most) 0 2 (mDs false [(mVar 3), (mVar 7)])) (mVar 6))) ⟨[.val (.frl (iD ns)), .val (.box 0), .val (fD (m : Nat) (T : Nat)), .val (.lst (iD xs)), .val (.int l), a, .val (.int (q : Nat)), .val (.int (t : Nat)), .val (.lst (iD (plL xs (t : Nat) (q : Nat)))), .no, .no, .no, .no, .no, .no, .no, .no, .no, .no, .no, .no, .no, .no, .no], [bx ns k], []⟩ = .ok false ⟨[.val (.frl (iD ns)), .val (.box 0), .val (fD (m : Nat) (T : Nat)), .val (.lst (iD xs)), .val (.int l), a, .val (.int (q : Nat)), .val (.int (t : Nat)), .val (.lst (iD (plL xs (t : Nat) (q : Nat)))), .no, .no, .no, .no, .no, .no, .no, .no, .no, .no, .no, .no, .no, .no, .no], [bx ns k], []⟩ := by
    have e := te_tb (Ev.rd (rd_bin (s := ⟨[.val (.frl (iD ns)), .val (.box 0), .val (fD (m : Nat) (T : Nat)), .val (.lst (iD xs)), .val (.int l), a, .val (.int (q : Nat)), .val (.int (t : Nat)), .val (.lst (iD (plL xs (t : Nat) (q : Nat)))), .no, .no, .no, .no, .no, .no, .no, .no, .no, .no, .no, .no, .no, .no, .no], [bx ns k], []⟩) (ma := mBin eqvD (mVar 8) (mLst (mDs false []))) (mb := mBin leD (mCall (fun _ => r__law_most) 0 2 (mDs false [(mVar 3), (mVar 7)])) (mVar 6)) (Ev.rd (rd_bin (rv rfl rfl) (Ev.rd (ev_lst as_nil (by decide)) rfl) (eq_nilL _)) rfl) (Ev.rd (rd_bin (Ev.rd (ev_call (as_cons (evv rfl) (as_cons (evv rfl) as_nil)) rfl c2) rfl) (rv rfl rfl) rfl) rfl) (ne_bl _ _)) rfl)
    rw [pe, w] at e
    rw [show (!(decide (lm xs (t : Nat) ≤ (q : Nat)) == decide (lm xs (t : Nat) ≤ (q : Nat)))) = false from by simp] at e
    exact e
  exact st_if (te_or t1 (fun _ => te_or1 t2)) (fun z => by cases z) (fun _ => rfl)
end K03

set_option Elab.async false
set_option linter.all false
set_option maxRecDepth 100000
set_option maxHeartbeats 4000000
/-! K03, part P6: the law's rows. -/
namespace K03
open PySem Rf
def rI (l : Int) : List Int := (List.range (7 - l).toNat).map fun (i : Nat) => l + (i : Nat)
def lastI : List Int → Int
  | [] => 0
  | [x] => x
  | _ :: r => lastI r
def nextL (layer : List (List Int)) : List (List Int) := layer.flatMap fun row => (rI (lastI row)).map fun x => row ++ [x]
def rowsT : List (List Int) := let a := [[]]; let b := nextL a; let c := nextL b; let d := nextL c; let e := nextL d; a ++ b ++ c ++ d ++ e
def rowsD (l : List (List Int)) : List D := l.map fun r => .tup (iD r)
theorem rows_len : rowsT.length = 330 := by decide +kernel
theorem e_law_rows (hs : List D) : r__law_rows [.int 4, .int 6] hs = .ok (.lst (rowsD rowsT)) hs := by kernel_rfl
def evL (m T : Int) : List (List Int) := rowsT.filter fun r => decide (lm r T ≤ m)
def lenL (n : Nat) (l : List (List Int)) : List (List Int) := l.filter fun r => decide (r.length = n)
end K03

set_option Elab.async false
set_option linter.all false
set_option maxRecDepth 100000
set_option maxHeartbeats 4000000
/-! K03, part PF: plain facts over all parameters. -/
namespace K03
open PySem Rf
def topI (m T k : Int) : Int := maxL ((evL m T).map fun r => lm r k)
def okTop (m T k : Int) : Bool := decide (topI m T k ≤ mw k m T) && (decide (4 < mw k m T) || decide (topI m T k = mw k m T))
def okPass (m T k : Int) (q : Nat) : Bool := decide (mw k m T ≤ (q : Nat)) || (upF 0 (snL m T (q + 1)) && shB (snL m T (q + 1)) (q : Nat) k m T)
def upTo (n : Nat) : List Int := (List.range n).map fun i : Nat => 1 + ((i : Nat) : Int)
def okFits (m T : Int) (q : Nat) : Bool := decide (gtL m T (q : Nat) = upTo (gtL m T (q : Nat)).length)
def allMT (p : Int → Int → Bool) : Bool := (List.range 4).all fun m => (List.range 5).all fun T => p (m : Nat) ((T + 1 : Nat) : Int)
theorem rows_ok : (rowsT.all fun r => decide (r.length ≤ 4) && upF 0 r) = true := by decide +kernel
theorem top_ok : (allMT fun m T => (List.range 6).all fun k => okTop m T ((k + 1 : Nat) : Int)) = true := by decide +kernel
theorem pass_ok : (allMT fun m T => (List.range 6).all fun k => (List.range 4).all fun q => okPass m T ((k + 1 : Nat) : Int) q) = true := by decide +kernel
theorem fits_ok : (allMT fun m T => (List.range 4).all fun q => okFits m T q) = true := by decide +kernel
end K03

set_option Elab.async false
set_option linter.all false
set_option maxRecDepth 100000
set_option maxHeartbeats 2000000
/-! K03, part P14: rows, tops, outcomes. -/
namespace K03
open PySem Rf
theorem allMT_get {p : Int → Int → Bool} (h : allMT p = true) {m T : Nat} (h1 : m < 4) (h2 : 1 ≤ T) (h3 : T ≤ 5) : p (m : Nat) (T : Nat) = true := by
  unfold allMT at h
  have a := List.all_eq_true.mp h m (List.mem_range.mpr h1)
  have b := List.all_eq_true.mp a (T - 1) (List.mem_range.mpr (by omega))
  rw [Nat.sub_add_cancel h2] at b
  exact b
theorem rows_get {r : List Int} (h : r ∈ rowsT) : r.length ≤ 4 ∧ upF 0 r = true := by
  have := List.all_eq_true.mp rows_ok r h
  rw [Bool.and_eq_true, decide_eq_true_eq] at this
  exact this
def unI : D → List Int
  | .tup ds => ds.filterMap asInt
  | _ => []
theorem unI_is : ∀ r : List Int, unI (.tup (iD r)) = r
  | [] => rfl
  | x :: r => by
    have ih := unI_is r
    show (D.int x :: iD r).filterMap asInt = x :: r
    rw [List.filterMap_cons_some (f := asInt) (b := x) rfl]
    exact congrArg (x :: ·) ih
def fRow (p : List Int → Bool) (d : D) : Option D := if p (unI d) = true then some d else none
theorem fRow_map (p : List Int → Bool) : ∀ l : List (List Int), (rowsD l).filterMap (fRow p) = rowsD (l.filter p)
  | [] => rfl
  | r :: l => by
    have ih := fRow_map p l
    unfold rowsD at ih ⊢
    rw [List.map_cons, List.filter_cons]
    cases h : p r
    · rw [List.filterMap_cons_none (by unfold fRow; rw [unI_is, h]; rfl), ih]; rfl
    · rw [List.filterMap_cons_some (b := .tup (iD r)) (by unfold fRow; rw [unI_is, h]; rfl), ih]; rfl
theorem lc_rows {mi : M It} {J : It} {s : Stt} {v : Nat} {c : M Bool} {l : List (List Int)} (p : List Int → Bool) (hmi : mi s = .ok J s) (hs : J.slots = []) (hJ : J.len s = (rowsD l).length) (hat : ∀ s' i, J.at i s' = some (rowsD l)[i]?) (hl : l.length ≤ 1000) (hv : v < s.σ.length) (no : noOwn [v] s = true)
    (hc : ∀ r ∈ l, ∀ acc, c (inS v (.tup (iD r)) acc s) = .ok (p r) (inS v (.tup (iD r)) acc s)) : Ev (mVal (nLc mi (tgName v) c (mVar v) [v])) s (.lst (rowsD (l.filter p))) := by
  have e := lc_is (t := tgName v) (c := c) (e := mVar v) (vs := [v]) (xs := rowsD l) (fRow p) hmi (by unfold lcOk; rw [no, hs]; rfl) hJ (by unfold rowsD; rw [List.length_map]; exact hl) (by intro x hx; rw [List.mem_singleton.mp hx]; exact hv) (fun acc i => hat _ i) (fun acc x hx => by
    obtain ⟨r, hr, rfl⟩ := List.mem_map.mp hx
    refine ⟨inS v (.tup (iD r)) acc s, rfl, inS_w, rfl, ?_⟩
    unfold fRow
    rw [unI_is]
    refine tn_if (hc r hr acc) (fun _ => ?_)
    have z := evv (s := inS v (.tup (iD r)) acc s) (inS_v hv)
    unfold mD
    rw [bnd_ok z]
    rfl)
  rw [fRow_map] at e
  exact e
theorem lc_rowsM {mi : M It} {J : It} {s : Stt} {v : Nat} {e : M Hd} {l : List (List Int)} (g : List Int → Int) (hmi : mi s = .ok J s) (hs : J.slots = []) (hJ : J.len s = (rowsD l).length) (hat : ∀ s' i, J.at i s' = some (rowsD l)[i]?) (hl : l.length ≤ 1000) (hv : v < s.σ.length) (no : noOwn [v] s = true)
    (he : ∀ r ∈ l, ∀ acc, Ev e (inS v (.tup (iD r)) acc s) (.int (g r))) : Ev (mVal (nLc mi (tgName v) mYes e [v])) s (.lst (iD (l.map g))) := by
  have q := lc_is (t := tgName v) (c := mYes) (e := e) (vs := [v]) (xs := rowsD l) (fun d => some (.int (g (unI d)))) hmi (by unfold lcOk; rw [no, hs]; rfl) hJ (by unfold rowsD; rw [List.length_map]; exact hl) (by intro x hx; rw [List.mem_singleton.mp hx]; exact hv) (fun acc i => hat _ i) (fun acc x hx => by
    obtain ⟨r, hr, rfl⟩ := List.mem_map.mp hx
    refine ⟨inS v (.tup (iD r)) acc s, rfl, inS_w, rfl, ?_⟩
    rw [unI_is]
    refine .yes rfl ?_
    unfold mD
    rw [bnd_ok (he r hr acc)]
    rfl)
  rw [filterMap_some] at q
  have e2 : (rowsD l).map (fun d => D.int (g (unI d))) = iD (l.map g) := by
    unfold rowsD iD
    rw [List.map_map, List.map_map]
    exact List.map_congr_left fun r _ => by show D.int (g (unI (.tup (iD r)))) = _; rw [unI_is]; rfl
  rw [e2] at q
  exact q
theorem ev_sub {m T : Int} {r : List Int} (h : r ∈ evL m T) : r ∈ rowsT ∧ lm r T ≤ m := ⟨(List.mem_filter.mp h).1, of_decide_eq_true (List.mem_filter.mp h).2⟩
theorem ev_len (m T : Int) : (evL m T).length ≤ 330 := by
  rw [← rows_len]
  exact List.length_filter_le _ _
theorem law7_is (ns xs : List Int) (m T : Nat) (l : Int) (hs : List D) (a : Sl) (q t : Nat) : m_law7 ⟨[.val (.frl (iD ns)), .val (.box 0), .val (fD (m : Nat) (T : Nat)), .val (.lst (iD xs)), .val (.int l), a, .val (.int (q : Nat)), .val (.int (t : Nat)), .val (.lst (iD (plL xs (t : Nat) (q : Nat)))), .no, .no, .no, .no, .no, .no, .no, .no, .no, .no, .no, .no, .no, .no, .no], hs, []⟩ = .nx ⟨[.val (.frl (iD ns)), .val (.box 0), .val (fD (m : Nat) (T : Nat)), .val (.lst (iD xs)), .val (.int l), a, .val (.int (q : Nat)), .val (.int (t : Nat)), .val (.lst (iD (plL xs (t : Nat) (q : Nat)))), .no, .no, .val (.lst (rowsD (evL (m : Nat) (T : Nat)))), .no, .no, .no, .no, .no, .no, .no, .no, .no, .no, .no, .no], hs, []⟩ := by
  have c := e_law_rows hs
  have ev : Ev (mCall (fun _ => r__law_rows) 0 2 (mDs false [(mC (.int 4)), (mC (.int 6))])) ⟨[.val (.frl (iD ns)), .val (.box 0), .val (fD (m : Nat) (T : Nat)), .val (.lst (iD xs)), .val (.int l), a, .val (.int (q : Nat)), .val (.int (t : Nat)), .val (.lst (iD (plL xs (t : Nat) (q : Nat)))), .no, .no, .no, .no, .no, .no, .no, .no, .no, .no, .no, .no, .no, .no, .no], hs, []⟩ (.lst (rowsD rowsT)) := ev_call (as_cons evc (as_cons evc as_nil)) rfl c
  have it : iH (mCall (fun _ => r__law_rows) 0 2 (mDs false [(mC (.int 4)), (mC (.int 6))])) ⟨[.val (.frl (iD ns)), .val (.box 0), .val (fD (m : Nat) (T : Nat)), .val (.lst (iD xs)), .val (.int l), a, .val (.int (q : Nat)), .val (.int (t : Nat)), .val (.lst (iD (plL xs (t : Nat) (q : Nat)))), .no, .no, .no, .no, .no, .no, .no, .no, .no, .no, .no, .no, .no, .no, .no], hs, []⟩ = .ok (.lst (.d (.lst (rowsD rowsT)))) ⟨[.val (.frl (iD ns)), .val (.box 0), .val (fD (m : Nat) (T : Nat)), .val (.lst (iD xs)), .val (.int l), a, .val (.int (q : Nat)), .val (.int (t : Nat)), .val (.lst (iD (plL xs (t : Nat) (q : Nat)))), .no, .no, .no, .no, .no, .no, .no, .no, .no, .no, .no, .no, .no, .no, .no], hs, []⟩ := by unfold iH; rw [bnd_ok ev]; rfl
  refine st_set (lc_rows (s := ⟨[.val (.frl (iD ns)), .val (.box 0), .val (fD (m : Nat) (T : Nat)), .val (.lst (iD xs)), .val (.int l), a, .val (.int (q : Nat)), .val (.int (t : Nat)), .val (.lst (iD (plL xs (t : Nat) (q : Nat)))), .no, .no, .no, .no, .no, .no, .no, .no, .no, .no, .no, .no, .no, .no, .no], hs, []⟩) (v := 12) (fun r => decide (lm r (T : Nat) ≤ (m : Nat))) it rfl rfl (fun _ _ => rfl) (by rw [rows_len]; decide) (by simp) rfl fun r hr acc => ?_)
  have c2 := e_law_most (.tup r) (by have := (rows_get hr).1; omega) (T : Nat) hs
  exact te_tb (Ev.rd (rd_bin (Ev.rd (ev_call (as_cons (evv rfl) (as_cons (rd_fld (c := 3) (rv rfl rfl) rfl rfl) as_nil)) rfl c2) rfl) (Ev.rd (rd_fld (c := 3) (d := .int (m : Nat)) (rv rfl rfl) rfl rfl) rfl) rfl) rfl)
theorem maxO_iD {xs : List Int} (h : xs ≠ []) : maxO (.lst (iD xs)) = some (.int (maxL xs)) := by
  show (some (xs.map D.int)).bind (fun xs => (intsOf xs).bind fun bs => if bs.isEmpty = true then none else some (D.int (maxL bs))) = _
  rw [Option.bind_some, ints_map, Option.bind_some]
  cases xs with
  | nil => exact absurd rfl h
  | cons x r => rfl
theorem nil_row : ([] : List Int) ∈ rowsT := by decide +kernel
theorem ev_ne {m T : Int} (hm : 0 ≤ m) : evL m T ≠ [] := fun h => by
  have : ([] : List Int) ∈ evL m T := List.mem_filter.mpr ⟨nil_row, decide_eq_true (show lm [] T ≤ m from hm)⟩
  rw [h] at this
  cases this
theorem law9_is (ns xs : List Int) (m T : Nat) (l : Int) (hs : List D) (a : Sl) (q t : Nat) : m_law9 ⟨[.val (.frl (iD ns)), .val (.box 0), .val (fD (m : Nat) (T : Nat)), .val (.lst (iD xs)), .val (.int l), a, .val (.int (q : Nat)), .val (.int (t : Nat)), .val (.lst (iD (plL xs (t : Nat) (q : Nat)))), .no, .no, .val (.lst (rowsD (evL (m : Nat) (T : Nat)))), .no, .val (.int 4), .val (.lst (rowsD (lenL 4 (evL (m : Nat) (T : Nat))))), .val (sn (m : Nat) (T : Nat) 4), .no, .no, .no, .no, .no, .no, .no, .no], hs, []⟩ = .nx ⟨[.val (.frl (iD ns)), .val (.box 0), .val (fD (m : Nat) (T : Nat)), .val (.lst (iD xs)), .val (.int l), a, .val (.int (q : Nat)), .val (.int (t : Nat)), .val (.lst (iD (plL xs (t : Nat) (q : Nat)))), .no, .no, .val (.lst (rowsD (evL (m : Nat) (T : Nat)))), .no, .val (.int 4), .val (.lst (rowsD (lenL 4 (evL (m : Nat) (T : Nat))))), .val (sn (m : Nat) (T : Nat) 4), .no, .val (.int (topI (m : Nat) (T : Nat) (t : Nat))), .no, .no, .no, .no, .no, .no], hs, []⟩ := by
  have it : iH (mVar 11) ⟨[.val (.frl (iD ns)), .val (.box 0), .val (fD (m : Nat) (T : Nat)), .val (.lst (iD xs)), .val (.int l), a, .val (.int (q : Nat)), .val (.int (t : Nat)), .val (.lst (iD (plL xs (t : Nat) (q : Nat)))), .no, .no, .val (.lst (rowsD (evL (m : Nat) (T : Nat)))), .no, .val (.int 4), .val (.lst (rowsD (lenL 4 (evL (m : Nat) (T : Nat))))), .val (sn (m : Nat) (T : Nat) 4), .no, .no, .no, .no, .no, .no, .no, .no], hs, []⟩ = .ok (.lst (.d (.lst (rowsD (evL (m : Nat) (T : Nat)))))) ⟨[.val (.frl (iD ns)), .val (.box 0), .val (fD (m : Nat) (T : Nat)), .val (.lst (iD xs)), .val (.int l), a, .val (.int (q : Nat)), .val (.int (t : Nat)), .val (.lst (iD (plL xs (t : Nat) (q : Nat)))), .no, .no, .val (.lst (rowsD (evL (m : Nat) (T : Nat)))), .no, .val (.int 4), .val (.lst (rowsD (lenL 4 (evL (m : Nat) (T : Nat))))), .val (sn (m : Nat) (T : Nat) 4), .no, .no, .no, .no, .no, .no, .no, .no], hs, []⟩ := by rfl
  have e := lc_rowsM (s := ⟨[.val (.frl (iD ns)), .val (.box 0), .val (fD (m : Nat) (T : Nat)), .val (.lst (iD xs)), .val (.int l), a, .val (.int (q : Nat)), .val (.int (t : Nat)), .val (.lst (iD (plL xs (t : Nat) (q : Nat)))), .no, .no, .val (.lst (rowsD (evL (m : Nat) (T : Nat)))), .no, .val (.int 4), .val (.lst (rowsD (lenL 4 (evL (m : Nat) (T : Nat))))), .val (sn (m : Nat) (T : Nat) 4), .no, .no, .no, .no, .no, .no, .no, .no], hs, []⟩) (v := 12) (e := mCall (fun _ => r__law_most) 0 2 (mDs false [(mVar 12), (mVar 7)])) (fun r => lm r (t : Nat)) it rfl rfl (fun _ _ => rfl) (by have := ev_len (m : Nat) (T : Nat); omega) (by simp) rfl fun r hr acc =>
    ev_call (as_cons (evv rfl) (as_cons (evv rfl) as_nil)) rfl (e_law_most (.tup r) (by have := (rows_get (ev_sub hr).1).1; omega) (t : Nat) hs)
  exact st_set (rd_m1 (Ev.rd e rfl) (maxO_iD (fun z => ev_ne (m := (m : Nat)) (T := (T : Nat)) (by omega) (List.map_eq_nil_iff.mp z))))
theorem law10_is (ns xs : List Int) (m T : Nat) (l : Int) (hs : List D) (a : Sl) (q t : Nat) (hm : m < 4) (h1 : 1 ≤ T) (h2 : T ≤ 5) (t1 : 1 ≤ t) (t2 : t ≤ 6) : m_law10 ⟨[.val (.frl (iD ns)), .val (.box 0), .val (fD (m : Nat) (T : Nat)), .val (.lst (iD xs)), .val (.int l), a, .val (.int (q : Nat)), .val (.int (t : Nat)), .val (.lst (iD (plL xs (t : Nat) (q : Nat)))), .no, .no, .val (.lst (rowsD (evL (m : Nat) (T : Nat)))), .no, .val (.int 4), .val (.lst (rowsD (lenL 4 (evL (m : Nat) (T : Nat))))), .val (sn (m : Nat) (T : Nat) 4), .no, .val (.int (topI (m : Nat) (T : Nat) (t : Nat))), .no, .no, .no, .no, .no, .no], hs, []⟩ = .nx ⟨[.val (.frl (iD ns)), .val (.box 0), .val (fD (m : Nat) (T : Nat)), .val (.lst (iD xs)), .val (.int l), a, .val (.int (q : Nat)), .val (.int (t : Nat)), .val (.lst (iD (plL xs (t : Nat) (q : Nat)))), .no, .no, .val (.lst (rowsD (evL (m : Nat) (T : Nat)))), .no, .val (.int 4), .val (.lst (rowsD (lenL 4 (evL (m : Nat) (T : Nat))))), .val (sn (m : Nat) (T : Nat) 4), .no, .val (.int (topI (m : Nat) (T : Nat) (t : Nat))), .no, .no, .no, .no, .no, .no], hs, []⟩ := by
  have top : okTop (m : Nat) (T : Nat) (t : Nat) = true := by
    have := List.all_eq_true.mp (allMT_get top_ok hm h1 h2) (t - 1) (List.mem_range.mpr (by omega))
    rw [Nat.sub_add_cancel t1] at this
    exact this
  unfold okTop at top
  rw [Bool.and_eq_true, Bool.or_eq_true, decide_eq_true_eq, decide_eq_true_eq, decide_eq_true_eq] at top
  obtain ⟨u1, u2⟩ := top
  have c1 : r_most_within [.int (t : Nat), fD (m : Nat) (T : Nat)] hs = .ok (.int (mw (t : Nat) (m : Nat) (T : Nat))) hs := e_most_within (t : Nat) (m : Nat) (T : Nat) hs (by omega) (by omega) (by omega) (by omega) (by omega) (by omega)
  have c2 : r_least_most [.int (t : Nat), fD (m : Nat) (T : Nat)] hs = .ok (.int (mw (t : Nat) (m : Nat) (T : Nat))) hs := e_least_most (t : Nat) (m : Nat) (T : Nat) hs (by omega) (by omega) (by omega) (by omega) (by omega) (by omega)
  have w : Ev (mCall (fun _ => r_most_within) 0 2 (mDs false [(mVar 7), (mVar 2)])) ⟨[.val (.frl (iD ns)), .val (.box 0), .val (fD (m : Nat) (T : Nat)), .val (.lst (iD xs)), .val (.int l), a, .val (.int (q : Nat)), .val (.int (t : Nat)), .val (.lst (iD (plL xs (t : Nat) (q : Nat)))), .no, .no, .val (.lst (rowsD (evL (m : Nat) (T : Nat)))), .no, .val (.int 4), .val (.lst (rowsD (lenL 4 (evL (m : Nat) (T : Nat))))), .val (sn (m : Nat) (T : Nat) 4), .no, .val (.int (topI (m : Nat) (T : Nat) (t : Nat))), .no, .no, .no, .no, .no, .no], hs, []⟩ (.int (mw (t : Nat) (m : Nat) (T : Nat))) := ev_call (as_cons (evv rfl) (as_cons (evv rfl) as_nil)) rfl c1
  have w2 : Ev (mCall (fun _ => r_least_most) 0 2 (mDs false [(mVar 7), (mVar 2)])) ⟨[.val (.frl (iD ns)), .val (.box 0), .val (fD (m : Nat) (T : Nat)), .val (.lst (iD xs)), .val (.int l), a, .val (.int (q : Nat)), .val (.int (t : Nat)), .val (.lst (iD (plL xs (t : Nat) (q : Nat)))), .no, .no, .val (.lst (rowsD (evL (m : Nat) (T : Nat)))), .no, .val (.int 4), .val (.lst (rowsD (lenL 4 (evL (m : Nat) (T : Nat))))), .val (sn (m : Nat) (T : Nat) 4), .no, .val (.int (topI (m : Nat) (T : Nat) (t : Nat))), .no, .no, .no, .no, .no, .no], hs, []⟩ (.int (mw (t : Nat) (m : Nat) (T : Nat))) := ev_call (as_cons (evv rfl) (as_cons (evv rfl) as_nil)) rfl c2
  have tk : Ev (mFld gd "ticks" (mVar 2)) ⟨[.val (.frl (iD ns)), .val (.box 0), .val (fD (m : Nat) (T : Nat)), .val (.lst (iD xs)), .val (.int l), a, .val (.int (q : Nat)), .val (.int (t : Nat)), .val (.lst (iD (plL xs (t : Nat) (q : Nat)))), .no, .no, .val (.lst (rowsD (evL (m : Nat) (T : Nat)))), .no, .val (.int 4), .val (.lst (rowsD (lenL 4 (evL (m : Nat) (T : Nat))))), .val (sn (m : Nat) (T : Nat) 4), .no, .val (.int (topI (m : Nat) (T : Nat) (t : Nat))), .no, .no, .no, .no, .no, .no], hs, []⟩ (.int (T : Nat)) := rd_fld (c := 3) (rv rfl rfl) rfl rfl
  have mn : Ev (mFld gd "many" (mVar 2)) ⟨[.val (.frl (iD ns)), .val (.box 0), .val (fD (m : Nat) (T : Nat)), .val (.lst (iD xs)), .val (.int l), a, .val (.int (q : Nat)), .val (.int (t : Nat)), .val (.lst (iD (plL xs (t : Nat) (q : Nat)))), .no, .no, .val (.lst (rowsD (evL (m : Nat) (T : Nat)))), .no, .val (.int 4), .val (.lst (rowsD (lenL 4 (evL (m : Nat) (T : Nat))))), .val (sn (m : Nat) (T : Nat) 4), .no, .val (.int (topI (m : Nat) (T : Nat) (t : Nat))), .no, .no, .no, .no, .no, .no], hs, []⟩ (.int (m : Nat)) := rd_fld (c := 3) (rv rfl rfl) rfl rfl
  have fm : Ev (mBin mulD (mBin fdivD (mBin subD (mBin addD (mVar 7) (mFld gd "ticks" (mVar 2))) (mC (.int 1))) (mFld gd "ticks" (mVar 2))) (mFld gd "many" (mVar 2))) ⟨[.val (.frl (iD ns)), .val (.box 0), .val (fD (m : Nat) (T : Nat)), .val (.lst (iD xs)), .val (.int l), a, .val (.int (q : Nat)), .val (.int (t : Nat)), .val (.lst (iD (plL xs (t : Nat) (q : Nat)))), .no, .no, .val (.lst (rowsD (evL (m : Nat) (T : Nat)))), .no, .val (.int 4), .val (.lst (rowsD (lenL 4 (evL (m : Nat) (T : Nat))))), .val (sn (m : Nat) (T : Nat) 4), .no, .val (.int (topI (m : Nat) (T : Nat) (t : Nat))), .no, .no, .no, .no, .no, .no], hs, []⟩ (.int (mw (t : Nat) (m : Nat) (T : Nat))) :=
    rd_bin (Ev.rd (rd_bin (Ev.rd (rd_bin (Ev.rd (rd_bin (rv rfl rfl) (Ev.rd tk rfl) rfl) rfl) (rc rfl) rfl) rfl) (Ev.rd tk rfl) (l_fdiv (by omega) (by omega))) rfl) (Ev.rd mn rfl) (l_mulR (by omega) (by omega))
  have ne0 : ∀ z : Int, nevD (.int z) (.int z) = some (.bl false) := fun z => by rw [ne_int]; simp
  have r1 := te_tb (Ev.rd (rd_bin (Ev.rd w rfl) (Ev.rd fm rfl) (ne0 _)) rfl)
  have r2 := te_tb (Ev.rd (rd_bin (Ev.rd w2 rfl) (Ev.rd w rfl) (ne0 _)) rfl)
  have r3 : mTB (mBin gtD (mVar 17) (mCall (fun _ => r_most_within) 0 2 (mDs false [(mVar 7), (mVar 2)]))) ⟨[.val (.frl (iD ns)), .val (.box 0), .val (fD (m : Nat) (T : Nat)), .val (.lst (iD xs)), .val (.int l), a, .val (.int (q : Nat)), .val (.int (t : Nat)), .val (.lst (iD (plL xs (t : Nat) (q : Nat)))), .no, .no, .val (.lst (rowsD (evL (m : Nat) (T : Nat)))), .no, .val (.int 4), .val (.lst (rowsD (lenL 4 (evL (m : Nat) (T : Nat))))), .val (sn (m : Nat) (T : Nat) 4), .no, .val (.int (topI (m : Nat) (T : Nat) (t : Nat))), .no, .no, .no, .no, .no, .no], hs, []⟩ = .ok false ⟨[.val (.frl (iD ns)), .val (.box 0), .val (fD (m : Nat) (T : Nat)), .val (.lst (iD xs)), .val (.int l), a, .val (.int (q : Nat)), .val (.int (t : Nat)), .val (.lst (iD (plL xs (t : Nat) (q : Nat)))), .no, .no, .val (.lst (rowsD (evL (m : Nat) (T : Nat)))), .no, .val (.int 4), .val (.lst (rowsD (lenL 4 (evL (m : Nat) (T : Nat))))), .val (sn (m : Nat) (T : Nat) 4), .no, .val (.int (topI (m : Nat) (T : Nat) (t : Nat))), .no, .no, .no, .no, .no, .no], hs, []⟩ := by
    have := te_tb (Ev.rd (rd_bin (s := ⟨[.val (.frl (iD ns)), .val (.box 0), .val (fD (m : Nat) (T : Nat)), .val (.lst (iD xs)), .val (.int l), a, .val (.int (q : Nat)), .val (.int (t : Nat)), .val (.lst (iD (plL xs (t : Nat) (q : Nat)))), .no, .no, .val (.lst (rowsD (evL (m : Nat) (T : Nat)))), .no, .val (.int 4), .val (.lst (rowsD (lenL 4 (evL (m : Nat) (T : Nat))))), .val (sn (m : Nat) (T : Nat) 4), .no, .val (.int (topI (m : Nat) (T : Nat) (t : Nat))), .no, .no, .no, .no, .no, .no], hs, []⟩) (op := gtD) (ma := mVar 17) (rv rfl rfl) (Ev.rd w rfl) rfl) rfl)
    rw [decide_eq_false (by omega)] at this
    exact this
  have r4 : mAndT [(mTB (mBin leD (mCall (fun _ => r_most_within) 0 2 (mDs false [(mVar 7), (mVar 2)])) (mC (.int 4)))), (mTB (mBin leD (mVar 7) (mC (.int 7)))), (mTB (mBin nevD (mVar 17) (mCall (fun _ => r_most_within) 0 2 (mDs false [(mVar 7), (mVar 2)]))))] ⟨[.val (.frl (iD ns)), .val (.box 0), .val (fD (m : Nat) (T : Nat)), .val (.lst (iD xs)), .val (.int l), a, .val (.int (q : Nat)), .val (.int (t : Nat)), .val (.lst (iD (plL xs (t : Nat) (q : Nat)))), .no, .no, .val (.lst (rowsD (evL (m : Nat) (T : Nat)))), .no, .val (.int 4), .val (.lst (rowsD (lenL 4 (evL (m : Nat) (T : Nat))))), .val (sn (m : Nat) (T : Nat) 4), .no, .val (.int (topI (m : Nat) (T : Nat) (t : Nat))), .no, .no, .no, .no, .no, .no], hs, []⟩ = .ok false ⟨[.val (.frl (iD ns)), .val (.box 0), .val (fD (m : Nat) (T : Nat)), .val (.lst (iD xs)), .val (.int l), a, .val (.int (q : Nat)), .val (.int (t : Nat)), .val (.lst (iD (plL xs (t : Nat) (q : Nat)))), .no, .no, .val (.lst (rowsD (evL (m : Nat) (T : Nat)))), .no, .val (.int 4), .val (.lst (rowsD (lenL 4 (evL (m : Nat) (T : Nat))))), .val (sn (m : Nat) (T : Nat) 4), .no, .val (.int (topI (m : Nat) (T : Nat) (t : Nat))), .no, .no, .no, .no, .no, .no], hs, []⟩ := by
    have e1 := te_tb (Ev.rd (rd_bin (s := ⟨[.val (.frl (iD ns)), .val (.box 0), .val (fD (m : Nat) (T : Nat)), .val (.lst (iD xs)), .val (.int l), a, .val (.int (q : Nat)), .val (.int (t : Nat)), .val (.lst (iD (plL xs (t : Nat) (q : Nat)))), .no, .no, .val (.lst (rowsD (evL (m : Nat) (T : Nat)))), .no, .val (.int 4), .val (.lst (rowsD (lenL 4 (evL (m : Nat) (T : Nat))))), .val (sn (m : Nat) (T : Nat) 4), .no, .val (.int (topI (m : Nat) (T : Nat) (t : Nat))), .no, .no, .no, .no, .no, .no], hs, []⟩) (op := leD) (mb := mC (.int 4)) (Ev.rd w rfl) (rc rfl) rfl) rfl)
    have e2 := te_tb (Ev.rd (rd_bin (s := ⟨[.val (.frl (iD ns)), .val (.box 0), .val (fD (m : Nat) (T : Nat)), .val (.lst (iD xs)), .val (.int l), a, .val (.int (q : Nat)), .val (.int (t : Nat)), .val (.lst (iD (plL xs (t : Nat) (q : Nat)))), .no, .no, .val (.lst (rowsD (evL (m : Nat) (T : Nat)))), .no, .val (.int 4), .val (.lst (rowsD (lenL 4 (evL (m : Nat) (T : Nat))))), .val (sn (m : Nat) (T : Nat) 4), .no, .val (.int (topI (m : Nat) (T : Nat) (t : Nat))), .no, .no, .no, .no, .no, .no], hs, []⟩) (op := leD) (ma := mVar 7) (mb := mC (.int 7)) (rv rfl rfl) (rc rfl) rfl) rfl)
    have e3 := te_tb (Ev.rd (rd_bin (s := ⟨[.val (.frl (iD ns)), .val (.box 0), .val (fD (m : Nat) (T : Nat)), .val (.lst (iD xs)), .val (.int l), a, .val (.int (q : Nat)), .val (.int (t : Nat)), .val (.lst (iD (plL xs (t : Nat) (q : Nat)))), .no, .no, .val (.lst (rowsD (evL (m : Nat) (T : Nat)))), .no, .val (.int 4), .val (.lst (rowsD (lenL 4 (evL (m : Nat) (T : Nat))))), .val (sn (m : Nat) (T : Nat) 4), .no, .val (.int (topI (m : Nat) (T : Nat) (t : Nat))), .no, .no, .no, .no, .no, .no], hs, []⟩) (op := nevD) (ma := mVar 17) (rv rfl rfl) (Ev.rd w rfl) (ne_int _ _)) rfl)
    have e := te_and e1 (fun _ => te_and e2 (fun _ => te_and1 e3))
    rw [e]
    show Out.ok (decide (mw (t : Nat) (m : Nat) (T : Nat) ≤ 4) && (decide (((t : Nat) : Int) ≤ 7) && !(topI (m : Nat) (T : Nat) (t : Nat) == mw (t : Nat) (m : Nat) (T : Nat)))) _ = _
    rcases u2 with z | z
    · rw [decide_eq_false (show ¬ mw (t : Nat) (m : Nat) (T : Nat) ≤ 4 by omega)]; rfl
    · rw [z]; simp
  exact st_if (te_or r1 (fun _ => te_or r2 (fun _ => te_or r3 (fun _ => te_or1 r4)))) (fun z => by cases z) (fun _ => rfl)
theorem law11_is (ns xs : List Int) (m T : Nat) (l : Int) (hs : List D) (a : Sl) (q t : Nat) (hm : m < 4) (h1 : 1 ≤ T) (h2 : T ≤ 5) (hq : q < 4) (t1 : 1 ≤ t) (t2 : t ≤ 6) : m_law11 ⟨[.val (.frl (iD ns)), .val (.box 0), .val (fD (m : Nat) (T : Nat)), .val (.lst (iD xs)), .val (.int l), a, .val (.int (q : Nat)), .val (.int (t : Nat)), .val (.lst (iD (plL xs (t : Nat) (q : Nat)))), .no, .no, .val (.lst (rowsD (evL (m : Nat) (T : Nat)))), .no, .val (.int 4), .val (.lst (rowsD (lenL 4 (evL (m : Nat) (T : Nat))))), .val (sn (m : Nat) (T : Nat) 4), .no, .val (.int (topI (m : Nat) (T : Nat) (t : Nat))), .no, .no, .no, .no, .no, .no], hs, []⟩ = .nx ⟨[.val (.frl (iD ns)), .val (.box 0), .val (fD (m : Nat) (T : Nat)), .val (.lst (iD xs)), .val (.int l), a, .val (.int (q : Nat)), .val (.int (t : Nat)), .val (.lst (iD (plL xs (t : Nat) (q : Nat)))), .no, .no, .val (.lst (rowsD (evL (m : Nat) (T : Nat)))), .no, .val (.int 4), .val (.lst (rowsD (lenL 4 (evL (m : Nat) (T : Nat))))), .val (sn (m : Nat) (T : Nat) 4), .no, .val (.int (topI (m : Nat) (T : Nat) (t : Nat))), .val (jd q (t : Nat) (m : Nat) (T : Nat)), .no, .no, .no, .no, .no], hs, []⟩ :=
  st_set (ev_call (as_cons (evv rfl) (as_cons (evv rfl) (as_cons (evv rfl) as_nil))) rfl (e_judge q (t : Nat) (m : Nat) (T : Nat) hs (by omega) (by omega) (by omega) (by omega) (by omega) (by omega) (by omega)))
end K03

set_option Elab.async false
set_option linter.all false
set_option maxRecDepth 100000
set_option maxHeartbeats 2000000
/-! K03, part P16: outcomes, rows, odd ones, fits. -/
namespace K03
open PySem Rf
/-! lists compared -/
theorem eqvs_iD : ∀ a b : List Int, D.eqvs (iD a) (iD b) = decide (a = b)
  | [], [] => rfl
  | [], _ :: _ => rfl
  | _ :: _, [] => rfl
  | x :: r, y :: u => by
    have ih := eqvs_iD r u
    show ((x == y) && D.eqvs (iD r) (iD u)) = _
    rw [ih]
    by_cases h1 : x = y
    · by_cases h2 : r = u
      · simp [h1, h2]
      · simp [h1, h2]
    · simp [h1]
theorem eq_lst (a b : List Int) : eqvD (.lst (iD a)) (.lst (iD b)) = some (.bl (decide (a = b))) := by
  unfold eqvD eqD
  have f : ∀ c : List Int, D.flat (.lst (iD c)) 40 = true := fun c => by unfold D.flat; rw [flats_iD]; rfl
  rw [f a, f b]
  show some (D.bl (D.eqvs (iD a) (iD b))) = _
  rw [eqvs_iD]
theorem ne_lst (a b : List Int) : nevD (.lst (iD a)) (.lst (iD b)) = some (.bl (!decide (a = b))) := by
  have := eq_lst a b
  unfold eqvD at this
  unfold nevD
  obtain ⟨z, h1, h2⟩ := Option.map_eq_some_iff.mp this
  cases h2
  rw [h1]; rfl
theorem mw_nn {t m T : Int} (h1 : 0 ≤ t) (h2 : 1 ≤ T) (h3 : 0 ≤ m) : 0 ≤ mw t m T := Int.mul_nonneg (Int.ediv_nonneg (by omega) (by omega)) h3
/-! truth and __bool__ of outcomes -/
theorem te_truI {m : M Hd} {s : Stt} {c i : Nat} {fs : List (Str × D)} {b : Bool} (h : Ev m s (.ins c fs)) (hm : gd.meth c "__bool__" = some i) (hf : gd.fn i = 1) (hr : ocBool i [.ins c fs] s.hs = .ok (.bl b) s.hs) : mTruI gd ocBool m s = .ok b s := by
  unfold mTruI
  rw [bnd_ok h]
  unfold truI
  rw [bnd_ok (look_ok (d := .ins c fs) rfl)]
  simp only [hm, hf, if_true]
  rw [bnd_ok (show toD false (.d (.ins c fs)) s = .ok (.ins c fs) s from rfl)]
  rw [bnd_ok (show boolCall ocBool i (.ins c fs) s = .ok b s from by unfold boolCall; rw [hr])]
  rfl
theorem ev_boolI {m : M Hd} {s : Stt} {c i : Nat} {fs : List (Str × D)} {b : Bool} (h : Ev m s (.ins c fs)) (hm : gd.meth c "__bool__" = some i) (hf : gd.fn i = 1) (hr : ocBool i [.ins c fs] s.hs = .ok (.bl b) s.hs) : Ev (mBoolI gd ocBool m) s (.bl b) := by
  unfold Ev mBoolI
  rw [bnd_ok h, bnd_ok (look_ok (d := .ins c fs) rfl)]
  simp only [hm, hf, if_true]
  rw [bnd_ok (show toD false (.d (.ins c fs)) s = .ok (.ins c fs) s from rfl)]
  rw [bnd_ok (show boolCall ocBool i (.ins c fs) s = .ok b s from by unfold boolCall; rw [hr])]
  rfl
theorem law12_is (ns xs : List Int) (m T : Nat) (l : Int) (hs : List D) (a : Sl) (q t : Nat) (hm : m < 4) (h1 : 1 ≤ T) (h2 : T ≤ 5) (hq : q < 4) (t1 : 1 ≤ t) (t2 : t ≤ 6) : m_law12 ⟨[.val (.frl (iD ns)), .val (.box 0), .val (fD (m : Nat) (T : Nat)), .val (.lst (iD xs)), .val (.int l), a, .val (.int (q : Nat)), .val (.int (t : Nat)), .val (.lst (iD (plL xs (t : Nat) (q : Nat)))), .no, .no, .val (.lst (rowsD (evL (m : Nat) (T : Nat)))), .no, .val (.int 4), .val (.lst (rowsD (lenL 4 (evL (m : Nat) (T : Nat))))), .val (sn (m : Nat) (T : Nat) 4), .no, .val (.int (topI (m : Nat) (T : Nat) (t : Nat))), .val (jd q (t : Nat) (m : Nat) (T : Nat)), .no, .no, .no, .no, .no], hs, []⟩ = .nx ⟨[.val (.frl (iD ns)), .val (.box 0), .val (fD (m : Nat) (T : Nat)), .val (.lst (iD xs)), .val (.int l), a, .val (.int (q : Nat)), .val (.int (t : Nat)), .val (.lst (iD (plL xs (t : Nat) (q : Nat)))), .no, .no, .val (.lst (rowsD (evL (m : Nat) (T : Nat)))), .no, .val (.int 4), .val (.lst (rowsD (lenL 4 (evL (m : Nat) (T : Nat))))), .val (sn (m : Nat) (T : Nat) 4), .no, .val (.int (topI (m : Nat) (T : Nat) (t : Nat))), .val (jd q (t : Nat) (m : Nat) (T : Nat)), .no, .no, .no, .no, .no], hs, []⟩ := by
  have c1 : r_most_within [.int (t : Nat), fD (m : Nat) (T : Nat)] hs = .ok (.int (mw (t : Nat) (m : Nat) (T : Nat))) hs := e_most_within (t : Nat) (m : Nat) (T : Nat) hs (by omega) (by omega) (by omega) (by omega) (by omega) (by omega)
  have w : Ev (mCall (fun _ => r_most_within) 0 2 (mDs false [(mVar 7), (mVar 2)])) ⟨[.val (.frl (iD ns)), .val (.box 0), .val (fD (m : Nat) (T : Nat)), .val (.lst (iD xs)), .val (.int l), a, .val (.int (q : Nat)), .val (.int (t : Nat)), .val (.lst (iD (plL xs (t : Nat) (q : Nat)))), .no, .no, .val (.lst (rowsD (evL (m : Nat) (T : Nat)))), .no, .val (.int 4), .val (.lst (rowsD (lenL 4 (evL (m : Nat) (T : Nat))))), .val (sn (m : Nat) (T : Nat) 4), .no, .val (.int (topI (m : Nat) (T : Nat) (t : Nat))), .val (jd q (t : Nat) (m : Nat) (T : Nat)), .no, .no, .no, .no, .no], hs, []⟩ (.int (mw (t : Nat) (m : Nat) (T : Nat))) := ev_call (as_cons (evv rfl) (as_cons (evv rfl) as_nil)) rfl c1
  have wl : Ev (mBin leD (mCall (fun _ => r_most_within) 0 2 (mDs false [(mVar 7), (mVar 2)])) (mVar 6)) ⟨[.val (.frl (iD ns)), .val (.box 0), .val (fD (m : Nat) (T : Nat)), .val (.lst (iD xs)), .val (.int l), a, .val (.int (q : Nat)), .val (.int (t : Nat)), .val (.lst (iD (plL xs (t : Nat) (q : Nat)))), .no, .no, .val (.lst (rowsD (evL (m : Nat) (T : Nat)))), .no, .val (.int 4), .val (.lst (rowsD (lenL 4 (evL (m : Nat) (T : Nat))))), .val (sn (m : Nat) (T : Nat) 4), .no, .val (.int (topI (m : Nat) (T : Nat) (t : Nat))), .val (jd q (t : Nat) (m : Nat) (T : Nat)), .no, .no, .no, .no, .no], hs, []⟩ (.bl (decide (mw (t : Nat) (m : Nat) (T : Nat) ≤ (q : Nat)))) := rd_bin (Ev.rd w rfl) (rv rfl rfl) rfl
  by_cases hb : mw (t : Nat) (m : Nat) (T : Nat) ≤ (q : Nat)
  · rw [decide_eq_true hb] at wl
    have hj : jd q (t : Nat) (m : Nat) (T : Nat) = bD (mw (t : Nat) (m : Nat) (T : Nat)) := if_pos hb
    rw [hj]
    rw [hj] at w wl
    have sh := e_Bears_shows (mw (t : Nat) (m : Nat) (T : Nat)) q (t : Nat) (m : Nat) (T : Nat) hs (by omega) (by omega) (by omega) (by omega) (by omega) (by omega) (by omega) hb
    rw [show (mw (t : Nat) (m : Nat) (T : Nat) == mw (t : Nat) (m : Nat) (T : Nat)) = true from by simp] at sh
    have b1 : Ev (mVar 18) ⟨[.val (.frl (iD ns)), .val (.box 0), .val (fD (m : Nat) (T : Nat)), .val (.lst (iD xs)), .val (.int l), a, .val (.int (q : Nat)), .val (.int (t : Nat)), .val (.lst (iD (plL xs (t : Nat) (q : Nat)))), .no, .no, .val (.lst (rowsD (evL (m : Nat) (T : Nat)))), .no, .val (.int 4), .val (.lst (rowsD (lenL 4 (evL (m : Nat) (T : Nat))))), .val (sn (m : Nat) (T : Nat) 4), .no, .val (.int (topI (m : Nat) (T : Nat) (t : Nat))), .val (bD (mw (t : Nat) (m : Nat) (T : Nat))), .no, .no, .no, .no, .no], hs, []⟩ (bD (mw (t : Nat) (m : Nat) (T : Nat))) := evv rfl
    have tb := te_truI (c := 4) (i := 1) (b := true) b1 (by rfl) (by rfl) (by rfl)
    have bb := ev_boolI (c := 4) (i := 1) (b := true) b1 (by rfl) (by rfl) (by rfl)
    have a1 := te_tb (Ev.rd (rd_bin (op := nevD) (z := .bl false) (Ev.rd bb rfl) (Ev.rd wl rfl) (by rfl)) rfl)
    have eqr := e_Bears_eq (mw (t : Nat) (m : Nat) (T : Nat)) (mw (t : Nat) (m : Nat) (T : Nat)) hs
    rw [show (mw (t : Nat) (m : Nat) (T : Nat) == mw (t : Nat) (m : Nat) (T : Nat)) = true from by simp] at eqr
    have nb : Ev (mVal (nNew (fun _ => i_Bears) 4 2 (mDs false [(mCall (fun _ => r_most_within) 0 2 (mDs false [(mVar 7), (mVar 2)]))]))) ⟨[.val (.frl (iD ns)), .val (.box 0), .val (fD (m : Nat) (T : Nat)), .val (.lst (iD xs)), .val (.int l), a, .val (.int (q : Nat)), .val (.int (t : Nat)), .val (.lst (iD (plL xs (t : Nat) (q : Nat)))), .no, .no, .val (.lst (rowsD (evL (m : Nat) (T : Nat)))), .no, .val (.int 4), .val (.lst (rowsD (lenL 4 (evL (m : Nat) (T : Nat))))), .val (sn (m : Nat) (T : Nat) 4), .no, .val (.int (topI (m : Nat) (T : Nat) (t : Nat))), .val (bD (mw (t : Nat) (m : Nat) (T : Nat))), .no, .no, .no, .no, .no], hs, []⟩ (bD (mw (t : Nat) (m : Nat) (T : Nat))) := ev_new (as_cons w as_nil) rfl (e_Bears _ hs)
    have a2 := te_tb (Ev.rd (e_cmp (neg := true) (c := 4) (c2 := 4) (i := 2) b1 nb (by rfl) ⟨by rfl, by rfl, fun _ => by rfl⟩ eqr) rfl)
    have a3 := te_not (te_tv (Ev.rd (ev_meth (oc := oc_shows) (nm := "shows") (c := 4) (i := 3) b1 (by rfl) (by rfl) (as_cons (m := mVar 6) (evv rfl) (as_cons (m := mVar 7) (evv rfl) (as_cons (m := mVar 2) (evv rfl) as_nil))) (by rfl) sh) rfl) rfl)
    exact st_if (te_or a1 (fun _ => te_or (te_and tb (fun _ => te_and1 a2)) (fun _ => te_or a3 (fun _ => te_or1 (te_and (c := false) (te_not tb) (fun z => by cases z)))))) (fun z => by cases z) (fun _ => rfl)
  · rw [decide_eq_false hb] at wl
    have hj : jd q (t : Nat) (m : Nat) (T : Nat) = pD (snL (m : Nat) (T : Nat) (q + 1)) := if_neg hb
    rw [hj]
    rw [hj] at w wl
    have ps : okPass (m : Nat) (T : Nat) (t : Nat) q = true := by
      have a := List.all_eq_true.mp (allMT_get pass_ok hm h1 h2) (t - 1) (List.mem_range.mpr (by omega))
      rw [Nat.sub_add_cancel t1] at a
      exact List.all_eq_true.mp a q (List.mem_range.mpr hq)
    unfold okPass at ps
    rw [decide_eq_false hb, Bool.false_or, Bool.and_eq_true] at ps
    obtain ⟨up, shv⟩ := ps
    have hmz : (m : Int) ≠ 0 := fun z => hb (by rw [z, mw_zero]; omega)
    have sh := e_shows_up up (by unfold snL; rw [List.length_map, List.length_range]; omega) (q : Nat) (t : Nat) (m : Nat) (T : Nat) hs (by omega) (by omega) (by omega) (by omega)
    rw [shv] at sh
    have b1 : Ev (mVar 18) ⟨[.val (.frl (iD ns)), .val (.box 0), .val (fD (m : Nat) (T : Nat)), .val (.lst (iD xs)), .val (.int l), a, .val (.int (q : Nat)), .val (.int (t : Nat)), .val (.lst (iD (plL xs (t : Nat) (q : Nat)))), .no, .no, .val (.lst (rowsD (evL (m : Nat) (T : Nat)))), .no, .val (.int 4), .val (.lst (rowsD (lenL 4 (evL (m : Nat) (T : Nat))))), .val (sn (m : Nat) (T : Nat) 4), .no, .val (.int (topI (m : Nat) (T : Nat) (t : Nat))), .val (pD (snL (m : Nat) (T : Nat) (q + 1))), .no, .no, .no, .no, .no], hs, []⟩ (pD (snL (m : Nat) (T : Nat) (q + 1))) := evv rfl
    have tb := te_truI (c := 5) (i := 4) (b := false) b1 (by rfl) (by rfl) (by rfl)
    have bb := ev_boolI (c := 5) (i := 4) (b := false) b1 (by rfl) (by rfl) (by rfl)
    have a1 := te_tb (Ev.rd (rd_bin (op := nevD) (z := .bl false) (Ev.rd bb rfl) (Ev.rd wl rfl) (by rfl)) rfl)
    have a3 := te_not (te_tv (Ev.rd (ev_meth (oc := oc_shows) (nm := "shows") (c := 5) (i := 6) b1 (by rfl) (by rfl) (as_cons (m := mVar 6) (evv rfl) (as_cons (m := mVar 7) (evv rfl) (as_cons (m := mVar 2) (evv rfl) as_nil))) (by rfl) sh) rfl) rfl)
    have so := e_soonest (m : Nat) (T : Nat) (q + 1) hs (by omega) (by omega) (by omega) (by omega) (by omega)
    unfold sn at so
    rw [if_neg hmz] at so
    have fl : Ev (mFld gd "falls" (mVar 18)) ⟨[.val (.frl (iD ns)), .val (.box 0), .val (fD (m : Nat) (T : Nat)), .val (.lst (iD xs)), .val (.int l), a, .val (.int (q : Nat)), .val (.int (t : Nat)), .val (.lst (iD (plL xs (t : Nat) (q : Nat)))), .no, .no, .val (.lst (rowsD (evL (m : Nat) (T : Nat)))), .no, .val (.int 4), .val (.lst (rowsD (lenL 4 (evL (m : Nat) (T : Nat))))), .val (sn (m : Nat) (T : Nat) 4), .no, .val (.int (topI (m : Nat) (T : Nat) (t : Nat))), .val (pD (snL (m : Nat) (T : Nat) (q + 1))), .no, .no, .no, .no, .no], hs, []⟩ (.tup (iD (snL (m : Nat) (T : Nat) (q + 1)))) := rd_fld (c := 5) (Ev.rd b1 rfl) rfl rfl
    have a4 := te_tb (Ev.rd (rd_bin (op := nevD) (Ev.rd (ev_n1 (op := lstO) (Ev.rd fl rfl) rfl) rfl) (Ev.rd (ev_call (run := r_soonest) (n := 2) (as_cons (m := mVar 2) (evv rfl) (as_cons (rd_bin (op := addD) (ma := mVar 6) (mb := mC (.int 1)) (z := .int ((q + 1 : Nat) : Int)) (rv rfl rfl) (rc rfl) rfl) as_nil)) rfl so) rfl) (ne_lst _ _)) rfl)
    rw [show (!decide (snL (m : Nat) (T : Nat) (q + 1) = snL (m : Nat) (T : Nat) (q + 1))) = false from by simp] at a4
    exact st_if (te_or a1 (fun _ => te_or (te_and (c := false) tb (fun z => by cases z)) (fun _ => te_or a3 (fun _ => te_or1 (te_and (te_not tb) (fun _ => te_and1 a4)))))) (fun z => by cases z) (fun _ => rfl)
end K03

set_option Elab.async false
set_option linter.all false
set_option maxRecDepth 100000
set_option maxHeartbeats 2000000
/-! K03, part P17: the law's last steps. -/
namespace K03
open PySem Rf
theorem pl_lt (xs : List Int) (t most : Int) : (plL xs t most).Pairwise (· < ·) ∧ ∀ z ∈ plL xs t most, z < xs.length := by
  constructor
  · unfold plL
    refine List.Pairwise.filter _ ?_
    rw [List.pairwise_map]
    exact List.Pairwise.imp (fun {a b} h => by omega) (List.pairwise_lt_range (n := xs.length))
  · intro z hz
    obtain ⟨i, hi, rfl⟩ := List.mem_map.mp (List.mem_filter.mp hz).1
    have := List.mem_range.mp hi
    omega
theorem last_is (xs : List Int) (t most : Int) : (match fbF xs t most xs.length 0 with | some i => (i : Int) == (xs.length : Int) - 1 | none => false) = decide (plL xs t most = [(xs.length : Int) - 1]) := by
  have fb := fb_is xs t most
  obtain ⟨p1, p2⟩ := pl_lt xs t most
  cases hp : plL xs t most with
  | nil =>
    rw [hp] at fb
    cases hf : fbF xs t most xs.length 0 with
    | none => simp
    | some i => rw [hf] at fb; cases fb
  | cons z u =>
    rw [hp] at fb p1 p2
    cases hf : fbF xs t most xs.length 0 with
    | none => rw [hf] at fb; cases fb
    | some i =>
      rw [hf] at fb
      have e : ((i : Nat) : Int) = z := by injection fb
      dsimp only
      rw [e]
      by_cases q : z = (xs.length : Int) - 1
      · have hu : u = [] := by
          cases u with
          | nil => rfl
          | cons y v =>
            have h1 := (List.pairwise_cons.mp p1).1 y List.mem_cons_self
            have h2 := p2 y (List.mem_cons_of_mem _ List.mem_cons_self)
            omega
        subst q
        rw [hu]
        simp
      · rw [decide_eq_false (fun z2 => q (List.cons.inj z2).1)]
        simpa using q
theorem pick_mem {α : Type} {xs : List α} {is : List Nat} {x : α} (h : x ∈ pickL xs is) : x ∈ xs := by
  unfold pickL at h
  obtain ⟨i, _, h2⟩ := List.mem_filterMap.mp h
  exact List.mem_of_getElem? h2
theorem law13_is (ns xs : List Int) (m T : Nat) (l : Int) (hs : List D) (a : Sl) (q t : Nat) (hm : m < 4) (h1 : 1 ≤ T) (h2 : T ≤ 5) (hq : q < 4) (t1 : 1 ≤ t) (t2 : t ≤ 6) : ∃ y12 y19, m_law13 ⟨[.val (.frl (iD ns)), .val (.box 0), .val (fD (m : Nat) (T : Nat)), .val (.lst (iD xs)), .val (.int l), a, .val (.int (q : Nat)), .val (.int (t : Nat)), .val (.lst (iD (plL xs (t : Nat) (q : Nat)))), .no, .no, .val (.lst (rowsD (evL (m : Nat) (T : Nat)))), .no, .val (.int 4), .val (.lst (rowsD (lenL 4 (evL (m : Nat) (T : Nat))))), .val (sn (m : Nat) (T : Nat) 4), .no, .val (.int (topI (m : Nat) (T : Nat) (t : Nat))), .val (jd q (t : Nat) (m : Nat) (T : Nat)), .no, .no, .no, .no, .no], hs, []⟩ = .nx ⟨[.val (.frl (iD ns)), .val (.box 0), .val (fD (m : Nat) (T : Nat)), .val (.lst (iD xs)), .val (.int l), a, .val (.int (q : Nat)), .val (.int (t : Nat)), .val (.lst (iD (plL xs (t : Nat) (q : Nat)))), .no, .no, .val (.lst (rowsD (evL (m : Nat) (T : Nat)))), y12, .val (.int 4), .val (.lst (rowsD (lenL 4 (evL (m : Nat) (T : Nat))))), .val (sn (m : Nat) (T : Nat) 4), .no, .val (.int (topI (m : Nat) (T : Nat) (t : Nat))), .val (jd q (t : Nat) (m : Nat) (T : Nat)), y19, .no, .no, .no, .no], hs, []⟩ := by
  have top : okTop (m : Nat) (T : Nat) (t : Nat) = true := by
    have := List.all_eq_true.mp (allMT_get top_ok hm h1 h2) (t - 1) (List.mem_range.mpr (by omega))
    rw [Nat.sub_add_cancel t1] at this
    exact this
  unfold okTop at top
  rw [Bool.and_eq_true, decide_eq_true_eq] at top
  have tl : ∀ r ∈ evL (m : Nat) (T : Nat), lm r (t : Nat) ≤ topI (m : Nat) (T : Nat) (t : Nat) := fun r hr =>
    (maxL_le (fun z => ev_ne (m := (m : Nat)) (T := (T : Nat)) (by omega) (List.map_eq_nil_iff.mp z))).mp (Int.le_refl _) _ (List.mem_map.mpr ⟨r, hr, rfl⟩)
  refine for_post (J := .lst (.d (.lst (pickL (rowsD (evL (m : Nat) (T : Nat))) (stepIx (rowsD (evL (m : Nat) (T : Nat))).length 7))))) (xs := pickL (rowsD (evL (m : Nat) (T : Nat))) (stepIx (rowsD (evL (m : Nat) (T : Nat))).length 7)) (s' := ⟨[.val (.frl (iD ns)), .val (.box 0), .val (fD (m : Nat) (T : Nat)), .val (.lst (iD xs)), .val (.int l), a, .val (.int (q : Nat)), .val (.int (t : Nat)), .val (.lst (iD (plL xs (t : Nat) (q : Nat)))), .no, .no, .val (.lst (rowsD (evL (m : Nat) (T : Nat)))), .no, .val (.int 4), .val (.lst (rowsD (lenL 4 (evL (m : Nat) (T : Nat))))), .val (sn (m : Nat) (T : Nat) 4), .no, .val (.int (topI (m : Nat) (T : Nat) (t : Nat))), .val (jd q (t : Nat) (m : Nat) (T : Nat)), .no, .no, .no, .no, .no], hs, []⟩)
    (fun i s => ∃ y12 y19, s = ⟨[.val (.frl (iD ns)), .val (.box 0), .val (fD (m : Nat) (T : Nat)), .val (.lst (iD xs)), .val (.int l), a, .val (.int (q : Nat)), .val (.int (t : Nat)), .val (.lst (iD (plL xs (t : Nat) (q : Nat)))), .no, .no, .val (.lst (rowsD (evL (m : Nat) (T : Nat)))), y12, .val (.int 4), .val (.lst (rowsD (lenL 4 (evL (m : Nat) (T : Nat))))), .val (sn (m : Nat) (T : Nat) 4), .no, .val (.int (topI (m : Nat) (T : Nat) (t : Nat))), .val (jd q (t : Nat) (m : Nat) (T : Nat)), y19, .no, .no, .no, .no], hs, []⟩) (fun r => ∃ y12 y19, r = .nx ⟨[.val (.frl (iD ns)), .val (.box 0), .val (fD (m : Nat) (T : Nat)), .val (.lst (iD xs)), .val (.int l), a, .val (.int (q : Nat)), .val (.int (t : Nat)), .val (.lst (iD (plL xs (t : Nat) (q : Nat)))), .no, .no, .val (.lst (rowsD (evL (m : Nat) (T : Nat)))), y12, .val (.int 4), .val (.lst (rowsD (lenL 4 (evL (m : Nat) (T : Nat))))), .val (sn (m : Nat) (T : Nat) 4), .no, .val (.int (topI (m : Nat) (T : Nat) (t : Nat))), .val (jd q (t : Nat) (m : Nat) (T : Nat)), y19, .no, .no, .no, .no], hs, []⟩) ?_ rfl rfl (fun i s ⟨y12, y19, e⟩ => by rw [e]; rfl) (fun i x s hx ⟨y12, y19, e⟩ => ?_) (fun s ⟨y12, y19, e⟩ => ⟨y12, y19, by rw [e]⟩) ⟨.no, .no, rfl⟩
  · have e : Ev (mVal (n1 (stepD 7) (mVar 11))) ⟨[.val (.frl (iD ns)), .val (.box 0), .val (fD (m : Nat) (T : Nat)), .val (.lst (iD xs)), .val (.int l), a, .val (.int (q : Nat)), .val (.int (t : Nat)), .val (.lst (iD (plL xs (t : Nat) (q : Nat)))), .no, .no, .val (.lst (rowsD (evL (m : Nat) (T : Nat)))), .no, .val (.int 4), .val (.lst (rowsD (lenL 4 (evL (m : Nat) (T : Nat))))), .val (sn (m : Nat) (T : Nat) 4), .no, .val (.int (topI (m : Nat) (T : Nat) (t : Nat))), .val (jd q (t : Nat) (m : Nat) (T : Nat)), .no, .no, .no, .no, .no], hs, []⟩ (.lst (pickL (rowsD (evL (m : Nat) (T : Nat))) (stepIx (rowsD (evL (m : Nat) (T : Nat))).length 7))) := ev_n1 (rv rfl rfl) rfl
    unfold iH
    rw [bnd_ok e]
    rfl
  · subst e
    have hx1 := pick_mem (List.mem_of_getElem? hx)
    obtain ⟨r, hr, rfl⟩ := List.mem_map.mp hx1
    obtain ⟨hrT, hrm⟩ := ev_sub hr
    obtain ⟨rl, ru⟩ := rows_get hrT
    refine ⟨⟨[.val (.frl (iD ns)), .val (.box 0), .val (fD (m : Nat) (T : Nat)), .val (.lst (iD xs)), .val (.int l), a, .val (.int (q : Nat)), .val (.int (t : Nat)), .val (.lst (iD (plL xs (t : Nat) (q : Nat)))), .no, .no, .val (.lst (rowsD (evL (m : Nat) (T : Nat)))), .val (.tup (iD r)), .val (.int 4), .val (.lst (rowsD (lenL 4 (evL (m : Nat) (T : Nat))))), .val (sn (m : Nat) (T : Nat) 4), .no, .val (.int (topI (m : Nat) (T : Nat) (t : Nat))), .val (jd q (t : Nat) (m : Nat) (T : Nat)), y19, .no, .no, .no, .no], hs, []⟩, rfl, .inl ⟨⟨[.val (.frl (iD ns)), .val (.box 0), .val (fD (m : Nat) (T : Nat)), .val (.lst (iD xs)), .val (.int l), a, .val (.int (q : Nat)), .val (.int (t : Nat)), .val (.lst (iD (plL xs (t : Nat) (q : Nat)))), .no, .no, .val (.lst (rowsD (evL (m : Nat) (T : Nat)))), .val (.tup (iD r)), .val (.int 4), .val (.lst (rowsD (lenL 4 (evL (m : Nat) (T : Nat))))), .val (sn (m : Nat) (T : Nat) 4), .no, .val (.int (topI (m : Nat) (T : Nat) (t : Nat))), .val (jd q (t : Nat) (m : Nat) (T : Nat)), .val (.bl (!r.isEmpty && decide (plL r (t : Nat) (q : Nat) = [(r.length : Int) - 1]))), .no, .no, .no, .no], hs, []⟩, ?_, _, _, rfl⟩⟩
    have pl := e_places (.tup r) (by omega) (s := ⟨[.val (.frl (iD ns)), .val (.box 0), .val (fD (m : Nat) (T : Nat)), .val (.lst (iD xs)), .val (.int l), a, .val (.int (q : Nat)), .val (.int (t : Nat)), .val (.lst (iD (plL xs (t : Nat) (q : Nat)))), .no, .no, .val (.lst (rowsD (evL (m : Nat) (T : Nat)))), .val (.tup (iD r)), .val (.int 4), .val (.lst (rowsD (lenL 4 (evL (m : Nat) (T : Nat))))), .val (sn (m : Nat) (T : Nat) 4), .no, .val (.int (topI (m : Nat) (T : Nat) (t : Nat))), .val (jd q (t : Nat) (m : Nat) (T : Nat)), y19, .no, .no, .no, .no], hs, []⟩) (v := 12) (p := 9) (o := 10) (tk := 7) (mo := 6) (t := (t : Nat)) (most := (q : Nat)) rfl rfl rfl (by simp) (by simp) rfl rfl (by decide) (by decide) (by decide) (by decide) (by decide) (by decide)
    have le1 : Ev (mLst (mDs false [(mBin subD (m1 lenO (mVar 12)) (mC (.int 1)))])) ⟨[.val (.frl (iD ns)), .val (.box 0), .val (fD (m : Nat) (T : Nat)), .val (.lst (iD xs)), .val (.int l), a, .val (.int (q : Nat)), .val (.int (t : Nat)), .val (.lst (iD (plL xs (t : Nat) (q : Nat)))), .no, .no, .val (.lst (rowsD (evL (m : Nat) (T : Nat)))), .val (.tup (iD r)), .val (.int 4), .val (.lst (rowsD (lenL 4 (evL (m : Nat) (T : Nat))))), .val (sn (m : Nat) (T : Nat) 4), .no, .val (.int (topI (m : Nat) (T : Nat) (t : Nat))), .val (jd q (t : Nat) (m : Nat) (T : Nat)), y19, .no, .no, .no, .no], hs, []⟩ (.lst (iD [(r.length : Int) - 1])) :=
      ev_lst (as_cons (rd_bin (Ev.rd (rd_m1 (rv (d := .tup (iD r)) rfl rfl) (lenO_sq (.tup r))) rfl) (rc rfl) rfl) as_nil) (by simp [iD])
    refine st_seq (st_set (ev_and (Ev.rd (rd_bin (rv rfl rfl) (Ev.rd (ev_tup as_nil (by decide)) rfl) (nev_nilT r)) rfl) (fun _ => ev_and1 (rd_bin (Ev.rd pl rfl) (Ev.rd le1 rfl) (eq_lst _ _))))) ?_
    have wd := window ru (t := (T : Nat)) (m := (m : Nat)) (by omega) (by omega)
    rw [decide_eq_true hrm] at wd
    have sh := e_shows_up ru (by omega) (q : Nat) (t : Nat) (m : Nat) (T : Nat) hs (by omega) (by omega) (by omega) (by omega)
    have shv : shB r (q : Nat) (t : Nat) (m : Nat) (T : Nat) = (!r.isEmpty && decide (plL r (t : Nat) (q : Nat) = [(r.length : Int) - 1])) := by
      unfold shB
      rw [wd, Bool.true_and, Bool.and_comm]
      exact congrArg (!r.isEmpty && ·) (last_is r (t : Nat) (q : Nat))
    rw [shv] at sh
    have np : Ev (mVal (nNew (fun _ => i_Passed) 5 2 (mDs false [(mVar 12)]))) ⟨[.val (.frl (iD ns)), .val (.box 0), .val (fD (m : Nat) (T : Nat)), .val (.lst (iD xs)), .val (.int l), a, .val (.int (q : Nat)), .val (.int (t : Nat)), .val (.lst (iD (plL xs (t : Nat) (q : Nat)))), .no, .no, .val (.lst (rowsD (evL (m : Nat) (T : Nat)))), .val (.tup (iD r)), .val (.int 4), .val (.lst (rowsD (lenL 4 (evL (m : Nat) (T : Nat))))), .val (sn (m : Nat) (T : Nat) 4), .no, .val (.int (topI (m : Nat) (T : Nat) (t : Nat))), .val (jd q (t : Nat) (m : Nat) (T : Nat)), .val (.bl (!r.isEmpty && decide (plL r (t : Nat) (q : Nat) = [(r.length : Int) - 1]))), .no, .no, .no, .no], hs, []⟩ (.ins 5 [("falls", .tup (iD r))]) := ev_new (as_cons (evv rfl) as_nil) rfl (e_Passed (.tup r) hs)
    have a1 := te_tb (Ev.rd (rd_bin (op := nevD) (mb := mVar 19) (Ev.rd (ev_meth (oc := oc_shows) (nm := "shows") (c := 5) (i := 6) np (by rfl) (by rfl) (as_cons (m := mVar 6) (evv rfl) (as_cons (m := mVar 7) (evv rfl) (as_cons (m := mVar 2) (evv rfl) as_nil))) (by rfl) sh) rfl) (rv rfl rfl) (ne_bl _ _)) rfl)
    rw [show (!((!r.isEmpty && decide (plL r (t : Nat) (q : Nat) = [(r.length : Int) - 1])) == (!r.isEmpty && decide (plL r (t : Nat) (q : Nat) = [(r.length : Int) - 1])))) = false from by simp] at a1
    have a2 : mTV (mVar 19) ⟨[.val (.frl (iD ns)), .val (.box 0), .val (fD (m : Nat) (T : Nat)), .val (.lst (iD xs)), .val (.int l), a, .val (.int (q : Nat)), .val (.int (t : Nat)), .val (.lst (iD (plL xs (t : Nat) (q : Nat)))), .no, .no, .val (.lst (rowsD (evL (m : Nat) (T : Nat)))), .val (.tup (iD r)), .val (.int 4), .val (.lst (rowsD (lenL 4 (evL (m : Nat) (T : Nat))))), .val (sn (m : Nat) (T : Nat) 4), .no, .val (.int (topI (m : Nat) (T : Nat) (t : Nat))), .val (jd q (t : Nat) (m : Nat) (T : Nat)), .val (.bl (!r.isEmpty && decide (plL r (t : Nat) (q : Nat) = [(r.length : Int) - 1]))), .no, .no, .no, .no], hs, []⟩ = .ok (!r.isEmpty && decide (plL r (t : Nat) (q : Nat) = [(r.length : Int) - 1])) ⟨[.val (.frl (iD ns)), .val (.box 0), .val (fD (m : Nat) (T : Nat)), .val (.lst (iD xs)), .val (.int l), a, .val (.int (q : Nat)), .val (.int (t : Nat)), .val (.lst (iD (plL xs (t : Nat) (q : Nat)))), .no, .no, .val (.lst (rowsD (evL (m : Nat) (T : Nat)))), .val (.tup (iD r)), .val (.int 4), .val (.lst (rowsD (lenL 4 (evL (m : Nat) (T : Nat))))), .val (sn (m : Nat) (T : Nat) 4), .no, .val (.int (topI (m : Nat) (T : Nat) (t : Nat))), .val (jd q (t : Nat) (m : Nat) (T : Nat)), .val (.bl (!r.isEmpty && decide (plL r (t : Nat) (q : Nat) = [(r.length : Int) - 1]))), .no, .no, .no, .no], hs, []⟩ := te_tv (rv rfl rfl) rfl
    have a3 : mAndT [mTV (mVar 19), mTruI gd ocBool (mVar 18)] ⟨[.val (.frl (iD ns)), .val (.box 0), .val (fD (m : Nat) (T : Nat)), .val (.lst (iD xs)), .val (.int l), a, .val (.int (q : Nat)), .val (.int (t : Nat)), .val (.lst (iD (plL xs (t : Nat) (q : Nat)))), .no, .no, .val (.lst (rowsD (evL (m : Nat) (T : Nat)))), .val (.tup (iD r)), .val (.int 4), .val (.lst (rowsD (lenL 4 (evL (m : Nat) (T : Nat))))), .val (sn (m : Nat) (T : Nat) 4), .no, .val (.int (topI (m : Nat) (T : Nat) (t : Nat))), .val (jd q (t : Nat) (m : Nat) (T : Nat)), .val (.bl (!r.isEmpty && decide (plL r (t : Nat) (q : Nat) = [(r.length : Int) - 1]))), .no, .no, .no, .no], hs, []⟩ = .ok false ⟨[.val (.frl (iD ns)), .val (.box 0), .val (fD (m : Nat) (T : Nat)), .val (.lst (iD xs)), .val (.int l), a, .val (.int (q : Nat)), .val (.int (t : Nat)), .val (.lst (iD (plL xs (t : Nat) (q : Nat)))), .no, .no, .val (.lst (rowsD (evL (m : Nat) (T : Nat)))), .val (.tup (iD r)), .val (.int 4), .val (.lst (rowsD (lenL 4 (evL (m : Nat) (T : Nat))))), .val (sn (m : Nat) (T : Nat) 4), .no, .val (.int (topI (m : Nat) (T : Nat) (t : Nat))), .val (jd q (t : Nat) (m : Nat) (T : Nat)), .val (.bl (!r.isEmpty && decide (plL r (t : Nat) (q : Nat) = [(r.length : Int) - 1]))), .no, .no, .no, .no], hs, []⟩ := by
      cases hd : (!r.isEmpty && decide (plL r (t : Nat) (q : Nat) = [(r.length : Int) - 1]))
      · rw [hd] at a2
        exact te_and (c := false) a2 (fun z => by cases z)
      · have hb : ¬ mw (t : Nat) (m : Nat) (T : Nat) ≤ (q : Nat) := fun hb => by
          rw [Bool.and_eq_true, decide_eq_true_eq] at hd
          have pe := pl_empty r (t : Nat) (q : Nat)
          rw [hd.2, window ru (t := (t : Nat)) (m := (q : Nat)) (by omega) (by omega)] at pe
          have z : ¬ lm r (t : Nat) ≤ (q : Nat) := fun z => by rw [decide_eq_true z] at pe; cases pe
          have := tl r hr
          omega
        have hj : jd q (t : Nat) (m : Nat) (T : Nat) = pD (snL (m : Nat) (T : Nat) (q + 1)) := if_neg hb
        rw [hd] at a2
        have tb := te_truI (s := ⟨[.val (.frl (iD ns)), .val (.box 0), .val (fD (m : Nat) (T : Nat)), .val (.lst (iD xs)), .val (.int l), a, .val (.int (q : Nat)), .val (.int (t : Nat)), .val (.lst (iD (plL xs (t : Nat) (q : Nat)))), .no, .no, .val (.lst (rowsD (evL (m : Nat) (T : Nat)))), .val (.tup (iD r)), .val (.int 4), .val (.lst (rowsD (lenL 4 (evL (m : Nat) (T : Nat))))), .val (sn (m : Nat) (T : Nat) 4), .no, .val (.int (topI (m : Nat) (T : Nat) (t : Nat))), .val (jd q (t : Nat) (m : Nat) (T : Nat)), .val (.bl (!r.isEmpty && decide (plL r (t : Nat) (q : Nat) = [(r.length : Int) - 1]))), .no, .no, .no, .no], hs, []⟩) (m := mVar 18) (c := 5) (i := 4) (fs := [("falls", .tup (iD (snL (m : Nat) (T : Nat) (q + 1))))]) (b := false) (by rw [hj]; exact evv rfl) (by rfl) (by rfl) (by rfl)
        rw [hd] at tb
        exact te_and a2 (fun _ => te_and1 tb)
    exact st_if (te_or a1 (fun _ => te_or1 a3)) (fun z => by cases z) (fun _ => rfl)
theorem law14_is (ns xs : List Int) (m T : Nat) (l : Int) (hs : List D) (a y12 y19 : Sl) (q t : Nat) (hm : m < 4) (h1 : 1 ≤ T) (h2 : T ≤ 5) (hq : q < 4) (t1 : 1 ≤ t) (t2 : t ≤ 6) : m_law14 ⟨[.val (.frl (iD ns)), .val (.box 0), .val (fD (m : Nat) (T : Nat)), .val (.lst (iD xs)), .val (.int l), a, .val (.int (q : Nat)), .val (.int (t : Nat)), .val (.lst (iD (plL xs (t : Nat) (q : Nat)))), .no, .no, .val (.lst (rowsD (evL (m : Nat) (T : Nat)))), y12, .val (.int 4), .val (.lst (rowsD (lenL 4 (evL (m : Nat) (T : Nat))))), .val (sn (m : Nat) (T : Nat) 4), .no, .val (.int (topI (m : Nat) (T : Nat) (t : Nat))), .val (jd q (t : Nat) (m : Nat) (T : Nat)), y19, .no, .no, .no, .no], hs, []⟩ = .nx ⟨[.val (.frl (iD ns)), .val (.box 0), .val (fD (m : Nat) (T : Nat)), .val (.lst (iD xs)), .val (.int l), a, .val (.int (q : Nat)), .val (.int (t : Nat)), .val (.lst (iD (plL xs (t : Nat) (q : Nat)))), .no, .no, .val (.lst (rowsD (evL (m : Nat) (T : Nat)))), y12, .val (.int 4), .val (.lst (rowsD (lenL 4 (evL (m : Nat) (T : Nat))))), .val (sn (m : Nat) (T : Nat) 4), .no, .val (.int (topI (m : Nat) (T : Nat) (t : Nat))), .val (jd q (t : Nat) (m : Nat) (T : Nat)), y19, .no, .no, .no, .no], hs, []⟩ := by
  have p1 : Ev (mVal (nNew (fun _ => i_Passed) 5 2 (mDs false [(mTup (mDs false [(mC .non)]))]))) ⟨[.val (.frl (iD ns)), .val (.box 0), .val (fD (m : Nat) (T : Nat)), .val (.lst (iD xs)), .val (.int l), a, .val (.int (q : Nat)), .val (.int (t : Nat)), .val (.lst (iD (plL xs (t : Nat) (q : Nat)))), .no, .no, .val (.lst (rowsD (evL (m : Nat) (T : Nat)))), y12, .val (.int 4), .val (.lst (rowsD (lenL 4 (evL (m : Nat) (T : Nat))))), .val (sn (m : Nat) (T : Nat) 4), .no, .val (.int (topI (m : Nat) (T : Nat) (t : Nat))), .val (jd q (t : Nat) (m : Nat) (T : Nat)), y19, .no, .no, .no, .no], hs, []⟩ (.ins 5 [("falls", .tup [.non])]) := ev_new (as_cons (ev_tup (as_cons evc as_nil) (by simp)) as_nil) rfl (e_PassedT _ hs)
  have p2 : Ev (mVal (nNew (fun _ => i_Passed) 5 2 (mDs false [(mTup (mDs false [(mC (.int 1)), (mC (.int 0))]))]))) ⟨[.val (.frl (iD ns)), .val (.box 0), .val (fD (m : Nat) (T : Nat)), .val (.lst (iD xs)), .val (.int l), a, .val (.int (q : Nat)), .val (.int (t : Nat)), .val (.lst (iD (plL xs (t : Nat) (q : Nat)))), .no, .no, .val (.lst (rowsD (evL (m : Nat) (T : Nat)))), y12, .val (.int 4), .val (.lst (rowsD (lenL 4 (evL (m : Nat) (T : Nat))))), .val (sn (m : Nat) (T : Nat) 4), .no, .val (.int (topI (m : Nat) (T : Nat) (t : Nat))), .val (jd q (t : Nat) (m : Nat) (T : Nat)), y19, .no, .no, .no, .no], hs, []⟩ (.ins 5 [("falls", .tup [.int 1, .int 0])]) := ev_new (as_cons (ev_tup (as_cons evc (as_cons evc as_nil)) (by simp)) as_nil) rfl (e_PassedT _ hs)
  have p3 : Ev (mVal (nNew (fun _ => i_Passed) 5 2 (mDs false [(mTup (mDs false [(mC (.str "a"))]))]))) ⟨[.val (.frl (iD ns)), .val (.box 0), .val (fD (m : Nat) (T : Nat)), .val (.lst (iD xs)), .val (.int l), a, .val (.int (q : Nat)), .val (.int (t : Nat)), .val (.lst (iD (plL xs (t : Nat) (q : Nat)))), .no, .no, .val (.lst (rowsD (evL (m : Nat) (T : Nat)))), y12, .val (.int 4), .val (.lst (rowsD (lenL 4 (evL (m : Nat) (T : Nat))))), .val (sn (m : Nat) (T : Nat) 4), .no, .val (.int (topI (m : Nat) (T : Nat) (t : Nat))), .val (jd q (t : Nat) (m : Nat) (T : Nat)), y19, .no, .no, .no, .no], hs, []⟩ (.ins 5 [("falls", .tup [.str "a"])]) := ev_new (as_cons (ev_tup (as_cons evc as_nil) (by simp)) as_nil) rfl (e_PassedT _ hs)
  have p4 : Ev (mVal (nNew (fun _ => i_Passed) 5 2 (mDs false [(mTup (mDs false []))]))) ⟨[.val (.frl (iD ns)), .val (.box 0), .val (fD (m : Nat) (T : Nat)), .val (.lst (iD xs)), .val (.int l), a, .val (.int (q : Nat)), .val (.int (t : Nat)), .val (.lst (iD (plL xs (t : Nat) (q : Nat)))), .no, .no, .val (.lst (rowsD (evL (m : Nat) (T : Nat)))), y12, .val (.int 4), .val (.lst (rowsD (lenL 4 (evL (m : Nat) (T : Nat))))), .val (sn (m : Nat) (T : Nat) 4), .no, .val (.int (topI (m : Nat) (T : Nat) (t : Nat))), .val (jd q (t : Nat) (m : Nat) (T : Nat)), y19, .no, .no, .no, .no], hs, []⟩ (.ins 5 [("falls", .tup [])]) := ev_new (as_cons (ev_tup as_nil (by simp)) as_nil) rfl (e_PassedT _ hs)
  have p5 : Ev (mVal (nNew (fun _ => i_Bears) 4 2 (mDs false [(mC .non)]))) ⟨[.val (.frl (iD ns)), .val (.box 0), .val (fD (m : Nat) (T : Nat)), .val (.lst (iD xs)), .val (.int l), a, .val (.int (q : Nat)), .val (.int (t : Nat)), .val (.lst (iD (plL xs (t : Nat) (q : Nat)))), .no, .no, .val (.lst (rowsD (evL (m : Nat) (T : Nat)))), y12, .val (.int 4), .val (.lst (rowsD (lenL 4 (evL (m : Nat) (T : Nat))))), .val (sn (m : Nat) (T : Nat) 4), .no, .val (.int (topI (m : Nat) (T : Nat) (t : Nat))), .val (jd q (t : Nat) (m : Nat) (T : Nat)), y19, .no, .no, .no, .no], hs, []⟩ (.ins 4 [("many", .non)]) := ev_new (as_cons evc as_nil) rfl (e_Bears _ hs)
  have s1 := e_showsX (x := .non) (fun hs => e_is_numberN 0 99999 hs) (q : Nat) (t : Nat) (m : Nat) (T : Nat) hs (by omega) (by omega) (by omega) (by omega)
  have s2 := e_shows_dn (xs := [1, 0]) (by rfl) 0 9 (m : Nat) (T : Nat) hs (by omega) (by omega) (by omega) (by omega)
  have s3 := e_showsX (x := .str "a") (fun hs => e_is_numberS "a" 0 99999 hs) 0 1 (m : Nat) (T : Nat) hs (by omega) (by omega) (by omega) (by omega)
  have s4 := e_shows_up (xs := []) (by rfl) (by decide) 0 1 (m : Nat) (T : Nat) hs (by omega) (by omega) (by omega) (by omega)
  rw [show shB [] 0 1 (m : Nat) (T : Nat) = false from by unfold shB; rw [show (fbF [] 1 0 ([] : List Int).length 0) = none from rfl]; simp] at s4
  have s5 := e_Bears_showsN 99 1 (m : Nat) (T : Nat) hs (by omega) (by omega) (by omega) (by omega) (by omega) (by omega) (by omega) (by
    unfold mw
    rw [show (1 + (T : Int) - 1) = T by omega, Int.ediv_self (by omega), Int.one_mul]
    omega)
  have a1 := te_tv (Ev.rd (ev_meth (oc := oc_shows) (nm := "shows") (c := 5) (i := 6) p1 (by rfl) (by rfl) (as_cons (m := mVar 6) (evv rfl) (as_cons (m := mVar 7) (evv rfl) (as_cons (m := mVar 2) (evv rfl) as_nil))) (by rfl) s1) rfl) rfl
  have a2 := te_tv (Ev.rd (ev_meth (oc := oc_shows) (nm := "shows") (c := 5) (i := 6) p2 (by rfl) (by rfl) (as_cons (m := mC (.int 0)) evc (as_cons (m := mC (.int 9)) evc (as_cons (m := mVar 2) (evv rfl) as_nil))) (by rfl) s2) rfl) rfl
  have a3 := te_tv (Ev.rd (ev_meth (oc := oc_shows) (nm := "shows") (c := 5) (i := 6) p3 (by rfl) (by rfl) (as_cons (m := mC (.int 0)) evc (as_cons (m := mC (.int 1)) evc (as_cons (m := mVar 2) (evv rfl) as_nil))) (by rfl) s3) rfl) rfl
  have a4 := te_tv (Ev.rd (ev_meth (oc := oc_shows) (nm := "shows") (c := 5) (i := 6) p4 (by rfl) (by rfl) (as_cons (m := mC (.int 0)) evc (as_cons (m := mC (.int 1)) evc (as_cons (m := mVar 2) (evv rfl) as_nil))) (by rfl) s4) rfl) rfl
  have a5 := te_tv (Ev.rd (ev_meth (oc := oc_shows) (nm := "shows") (c := 4) (i := 3) p5 (by rfl) (by rfl) (as_cons (m := mC (.int 99)) evc (as_cons (m := mC (.int 1)) evc (as_cons (m := mVar 2) (evv rfl) as_nil))) (by rfl) s5) rfl) rfl
  exact st_if (te_or a1 (fun _ => te_or a2 (fun _ => te_or a3 (fun _ => te_or a4 (fun _ => te_or1 a5))))) (fun z => by cases z) (fun _ => rfl)
theorem law15_is (ns xs : List Int) (m T : Nat) (l : Int) (hs : List D) (a y12 y19 : Sl) (q t : Nat) (hm : m < 4) (h1 : 1 ≤ T) (h2 : T ≤ 5) : m_law15 ⟨[.val (.frl (iD ns)), .val (.box 0), .val (fD (m : Nat) (T : Nat)), .val (.lst (iD xs)), .val (.int l), a, .val (.int (q : Nat)), .val (.int (t : Nat)), .val (.lst (iD (plL xs (t : Nat) (q : Nat)))), .no, .no, .val (.lst (rowsD (evL (m : Nat) (T : Nat)))), y12, .val (.int 4), .val (.lst (rowsD (lenL 4 (evL (m : Nat) (T : Nat))))), .val (sn (m : Nat) (T : Nat) 4), .no, .val (.int (topI (m : Nat) (T : Nat) (t : Nat))), .val (jd q (t : Nat) (m : Nat) (T : Nat)), y19, .no, .no, .no, .no], hs, []⟩ = .nx ⟨[.val (.frl (iD ns)), .val (.box 0), .val (fD (m : Nat) (T : Nat)), .val (.lst (iD xs)), .val (.int l), a, .val (.int (q : Nat)), .val (.int (t : Nat)), .val (.lst (iD (plL xs (t : Nat) (q : Nat)))), .no, .no, .val (.lst (rowsD (evL (m : Nat) (T : Nat)))), y12, .val (.int 4), .val (.lst (rowsD (lenL 4 (evL (m : Nat) (T : Nat))))), .val (sn (m : Nat) (T : Nat) 4), .no, .val (.int (topI (m : Nat) (T : Nat) (t : Nat))), .val (jd q (t : Nat) (m : Nat) (T : Nat)), y19, .val (.lst (iD (gtL (m : Nat) (T : Nat) (q : Nat)))), .no, .no, .no], hs, []⟩ :=
  st_set (e_fits (s := ⟨[.val (.frl (iD ns)), .val (.box 0), .val (fD (m : Nat) (T : Nat)), .val (.lst (iD xs)), .val (.int l), a, .val (.int (q : Nat)), .val (.int (t : Nat)), .val (.lst (iD (plL xs (t : Nat) (q : Nat)))), .no, .no, .val (.lst (rowsD (evL (m : Nat) (T : Nat)))), y12, .val (.int 4), .val (.lst (rowsD (lenL 4 (evL (m : Nat) (T : Nat))))), .val (sn (m : Nat) (T : Nat) 4), .no, .val (.int (topI (m : Nat) (T : Nat) (t : Nat))), .val (jd q (t : Nat) (m : Nat) (T : Nat)), y19, .no, .no, .no, .no], hs, []⟩) (v := 16) (f := 2) (mo := 6) (by simp) rfl (by omega) (by omega) (by omega) (by omega) rfl rfl (by decide) (by decide))
theorem ev_rg2 {ma mb : M Hd} {s : Stt} {i j : Int} (ha : Ev ma s (.int i)) (hb : Ev mb s (.int j)) (h : 0 ≤ i ∧ j ≤ 16777216 ∧ i ≤ 16777216 ∧ 0 ≤ j) : Ev (mVal (nLRg2 ma mb)) s (.lst (rgD i j)) := by
  have q : nLRg2 ma mb s = .ok s.tm.length (pushT (.lst (rgD i j)) s) := by
    unfold nLRg2
    rw [bnd_ok ha, bnd_ok hb, bnd_ok (look_ok (h := .d (.int i)) (d := .int i) rfl), bnd_ok (look_ok (h := .d (.int j)) (d := .int j) rfl)]
    dsimp only
    rw [if_pos h]
    rfl
  unfold Ev mVal
  rw [q]
  simp [pushT, popT]
theorem law16_is (ns xs : List Int) (m T : Nat) (l : Int) (hs : List D) (a y12 y19 : Sl) (q t : Nat) (hm : m < 4) (h1 : 1 ≤ T) (h2 : T ≤ 5) (hq : q < 4) : m_law16 ⟨[.val (.frl (iD ns)), .val (.box 0), .val (fD (m : Nat) (T : Nat)), .val (.lst (iD xs)), .val (.int l), a, .val (.int (q : Nat)), .val (.int (t : Nat)), .val (.lst (iD (plL xs (t : Nat) (q : Nat)))), .no, .no, .val (.lst (rowsD (evL (m : Nat) (T : Nat)))), y12, .val (.int 4), .val (.lst (rowsD (lenL 4 (evL (m : Nat) (T : Nat))))), .val (sn (m : Nat) (T : Nat) 4), .no, .val (.int (topI (m : Nat) (T : Nat) (t : Nat))), .val (jd q (t : Nat) (m : Nat) (T : Nat)), y19, .val (.lst (iD (gtL (m : Nat) (T : Nat) (q : Nat)))), .no, .no, .no], hs, []⟩ = .nx ⟨[.val (.frl (iD ns)), .val (.box 0), .val (fD (m : Nat) (T : Nat)), .val (.lst (iD xs)), .val (.int l), a, .val (.int (q : Nat)), .val (.int (t : Nat)), .val (.lst (iD (plL xs (t : Nat) (q : Nat)))), .no, .no, .val (.lst (rowsD (evL (m : Nat) (T : Nat)))), y12, .val (.int 4), .val (.lst (rowsD (lenL 4 (evL (m : Nat) (T : Nat))))), .val (sn (m : Nat) (T : Nat) 4), .no, .val (.int (topI (m : Nat) (T : Nat) (t : Nat))), .val (jd q (t : Nat) (m : Nat) (T : Nat)), y19, .val (.lst (iD (gtL (m : Nat) (T : Nat) (q : Nat)))), .no, .no, .no], hs, []⟩ := by
  have fits : okFits (m : Nat) (T : Nat) q = true := List.all_eq_true.mp (allMT_get fits_ok hm h1 h2) q (List.mem_range.mpr hq)
  unfold okFits at fits
  have fits := of_decide_eq_true fits
  have c1 := e_greatest (m : Nat) (T : Nat) (q : Nat) hs (by omega) (by omega) (by omega) (by omega) (by omega) (by omega)
  have tst := te_tb (Ev.rd (rd_bin (s := ⟨[.val (.frl (iD ns)), .val (.box 0), .val (fD (m : Nat) (T : Nat)), .val (.lst (iD xs)), .val (.int l), a, .val (.int (q : Nat)), .val (.int (t : Nat)), .val (.lst (iD (plL xs (t : Nat) (q : Nat)))), .no, .no, .val (.lst (rowsD (evL (m : Nat) (T : Nat)))), y12, .val (.int 4), .val (.lst (rowsD (lenL 4 (evL (m : Nat) (T : Nat))))), .val (sn (m : Nat) (T : Nat) 4), .no, .val (.int (topI (m : Nat) (T : Nat) (t : Nat))), .val (jd q (t : Nat) (m : Nat) (T : Nat)), y19, .val (.lst (iD (gtL (m : Nat) (T : Nat) (q : Nat)))), .no, .no, .no], hs, []⟩) (op := nevD) (ma := mVar 20) (mb := mLst (mDs false [])) (rv rfl rfl) (Ev.rd (ev_lst as_nil (by decide)) rfl) (nev_nilL _)) rfl)
  have lst : Ev (mIf (mTB (mBin nevD (mVar 20) (mLst (mDs false [])))) (mBin itemD (mVar 20) (m1 negO (mC (.int 1)))) (mC (.int 0))) ⟨[.val (.frl (iD ns)), .val (.box 0), .val (fD (m : Nat) (T : Nat)), .val (.lst (iD xs)), .val (.int l), a, .val (.int (q : Nat)), .val (.int (t : Nat)), .val (.lst (iD (plL xs (t : Nat) (q : Nat)))), .no, .no, .val (.lst (rowsD (evL (m : Nat) (T : Nat)))), y12, .val (.int 4), .val (.lst (rowsD (lenL 4 (evL (m : Nat) (T : Nat))))), .val (sn (m : Nat) (T : Nat) 4), .no, .val (.int (topI (m : Nat) (T : Nat) (t : Nat))), .val (jd q (t : Nat) (m : Nat) (T : Nat)), y19, .val (.lst (iD (gtL (m : Nat) (T : Nat) (q : Nat)))), .no, .no, .no], hs, []⟩ (.int (if (gtL (m : Nat) (T : Nat) (q : Nat)).isEmpty = true then 0 else lst0 (gtL (m : Nat) (T : Nat) (q : Nat)))) := by
    refine ev_if tst (fun z => ?_) (fun z => ?_)
    · have z : (gtL (m : Nat) (T : Nat) (q : Nat)).isEmpty = false := by simpa using z
      rw [if_neg (by rw [z]; simp)]
      exact rd_bin (rv rfl rfl) (Ev.rd (rd_m1 (z := .int (-1)) (rc rfl) rfl) rfl) (item_last z)
    · have z : (gtL (m : Nat) (T : Nat) (q : Nat)).isEmpty = true := by simpa using z
      rw [if_pos z]
      exact evc
  have ne0 : ∀ z : Int, nevD (.int z) (.int z) = some (.bl false) := fun z => by rw [ne_int]; simp
  have a1 := te_tb (Ev.rd (rd_bin (Ev.rd (ev_call (run := r_greatest_ticks) (n := 2) (as_cons (m := mVar 6) (evv rfl) (as_cons (m := mVar 2) (evv rfl) as_nil)) rfl c1) rfl) (Ev.rd lst rfl) (ne0 _)) rfl)
  have rg : Ev (mVal (nLRg2 (mC (.int 1)) (mBin addD (m1 lenO (mVar 20)) (mC (.int 1))))) ⟨[.val (.frl (iD ns)), .val (.box 0), .val (fD (m : Nat) (T : Nat)), .val (.lst (iD xs)), .val (.int l), a, .val (.int (q : Nat)), .val (.int (t : Nat)), .val (.lst (iD (plL xs (t : Nat) (q : Nat)))), .no, .no, .val (.lst (rowsD (evL (m : Nat) (T : Nat)))), y12, .val (.int 4), .val (.lst (rowsD (lenL 4 (evL (m : Nat) (T : Nat))))), .val (sn (m : Nat) (T : Nat) 4), .no, .val (.int (topI (m : Nat) (T : Nat) (t : Nat))), .val (jd q (t : Nat) (m : Nat) (T : Nat)), y19, .val (.lst (iD (gtL (m : Nat) (T : Nat) (q : Nat)))), .no, .no, .no], hs, []⟩ (.lst (iD (gtL (m : Nat) (T : Nat) (q : Nat)))) := by
    have ll : (gtL (m : Nat) (T : Nat) (q : Nat)).length ≤ 99 := by
      unfold gtL
      refine Nat.le_trans (List.length_filter_le _ _) ?_
      rw [List.length_map, List.length_range]
      exact Nat.le_refl _
    have e1 : Ev (mBin addD (m1 lenO (mVar 20)) (mC (.int 1))) ⟨[.val (.frl (iD ns)), .val (.box 0), .val (fD (m : Nat) (T : Nat)), .val (.lst (iD xs)), .val (.int l), a, .val (.int (q : Nat)), .val (.int (t : Nat)), .val (.lst (iD (plL xs (t : Nat) (q : Nat)))), .no, .no, .val (.lst (rowsD (evL (m : Nat) (T : Nat)))), y12, .val (.int 4), .val (.lst (rowsD (lenL 4 (evL (m : Nat) (T : Nat))))), .val (sn (m : Nat) (T : Nat) 4), .no, .val (.int (topI (m : Nat) (T : Nat) (t : Nat))), .val (jd q (t : Nat) (m : Nat) (T : Nat)), y19, .val (.lst (iD (gtL (m : Nat) (T : Nat) (q : Nat)))), .no, .no, .no], hs, []⟩ (.int ((gtL (m : Nat) (T : Nat) (q : Nat)).length + 1)) := rd_bin (Ev.rd (rd_m1 (rv rfl rfl) (lenO_iD _)) rfl) (rc rfl) rfl
    have e3 : rgD 1 ((gtL (m : Nat) (T : Nat) (q : Nat)).length + 1) = iD (gtL (m : Nat) (T : Nat) (q : Nat)) := by
      conv => rhs; rw [fits]
      unfold rgD upTo iD
      rw [List.map_map, show (((gtL (m : Nat) (T : Nat) (q : Nat)).length : Int) + 1 - 1).toNat = (gtL (m : Nat) (T : Nat) (q : Nat)).length by omega]
      rfl
    have e2 := ev_rg2 (ma := mC (.int 1)) (i := 1) evc e1 (by omega)
    rw [e3] at e2
    exact e2
  have a2 := te_tb (Ev.rd (rd_bin (op := nevD) (ma := mVar 20) (rv rfl rfl) (Ev.rd rg rfl) (ne_lst _ _)) rfl)
  rw [show (!decide (gtL (m : Nat) (T : Nat) (q : Nat) = gtL (m : Nat) (T : Nat) (q : Nat))) = false from by simp] at a2
  exact st_if (te_or a1 (fun _ => te_or1 a2)) (fun z => by cases z) (fun _ => rfl)
end K03

set_option Elab.async false
set_option linter.all false
set_option maxRecDepth 100000
set_option maxHeartbeats 2000000
/-! K03, part P18: what is refused, and the end. -/
namespace K03
open PySem Rf
def toC : OutS → OutC
  | .nx s => .ok .non s.hs
  | .rt d s => .ok d s.hs
  | .exc c fs s => .exc c fs s.hs
  | _ => .bad
def stE (m T : Int) (a0 a1 a3 a4 a5 a6 a7 a8 a9 a10 a11 a12 a13 a14 a15 a16 a17 a18 a19 a20 : Sl) (hs : List D) : Stt := ⟨[a0, a1, .val (fD m T), a3, a4, a5, a6, a7, a8, a9, a10, a11, a12, a13, a14, a15, a16, a17, a18, a19, a20, .no, .no, .no], hs, []⟩
theorem end_01 (a0 a1 a3 a4 a5 a6 a7 a8 a9 a10 a11 a12 a13 a14 a15 a16 a17 a18 a19 a20 : Sl) (hs : List D) : toC (sSeq m_law17 m_law18 (stE 0 1 a0 a1 a3 a4 a5 a6 a7 a8 a9 a10 a11 a12 a13 a14 a15 a16 a17 a18 a19 a20 hs)) = .ok (.bl true) hs := by kernel_rfl
theorem end_02 (a0 a1 a3 a4 a5 a6 a7 a8 a9 a10 a11 a12 a13 a14 a15 a16 a17 a18 a19 a20 : Sl) (hs : List D) : toC (sSeq m_law17 m_law18 (stE 0 2 a0 a1 a3 a4 a5 a6 a7 a8 a9 a10 a11 a12 a13 a14 a15 a16 a17 a18 a19 a20 hs)) = .ok (.bl true) hs := by kernel_rfl
theorem end_03 (a0 a1 a3 a4 a5 a6 a7 a8 a9 a10 a11 a12 a13 a14 a15 a16 a17 a18 a19 a20 : Sl) (hs : List D) : toC (sSeq m_law17 m_law18 (stE 0 3 a0 a1 a3 a4 a5 a6 a7 a8 a9 a10 a11 a12 a13 a14 a15 a16 a17 a18 a19 a20 hs)) = .ok (.bl true) hs := by kernel_rfl
theorem end_04 (a0 a1 a3 a4 a5 a6 a7 a8 a9 a10 a11 a12 a13 a14 a15 a16 a17 a18 a19 a20 : Sl) (hs : List D) : toC (sSeq m_law17 m_law18 (stE 0 4 a0 a1 a3 a4 a5 a6 a7 a8 a9 a10 a11 a12 a13 a14 a15 a16 a17 a18 a19 a20 hs)) = .ok (.bl true) hs := by kernel_rfl
theorem end_05 (a0 a1 a3 a4 a5 a6 a7 a8 a9 a10 a11 a12 a13 a14 a15 a16 a17 a18 a19 a20 : Sl) (hs : List D) : toC (sSeq m_law17 m_law18 (stE 0 5 a0 a1 a3 a4 a5 a6 a7 a8 a9 a10 a11 a12 a13 a14 a15 a16 a17 a18 a19 a20 hs)) = .ok (.bl true) hs := by kernel_rfl
theorem end_11 (a0 a1 a3 a4 a5 a6 a7 a8 a9 a10 a11 a12 a13 a14 a15 a16 a17 a18 a19 a20 : Sl) (hs : List D) : toC (sSeq m_law17 m_law18 (stE 1 1 a0 a1 a3 a4 a5 a6 a7 a8 a9 a10 a11 a12 a13 a14 a15 a16 a17 a18 a19 a20 hs)) = .ok (.bl true) hs := by kernel_rfl
theorem end_12 (a0 a1 a3 a4 a5 a6 a7 a8 a9 a10 a11 a12 a13 a14 a15 a16 a17 a18 a19 a20 : Sl) (hs : List D) : toC (sSeq m_law17 m_law18 (stE 1 2 a0 a1 a3 a4 a5 a6 a7 a8 a9 a10 a11 a12 a13 a14 a15 a16 a17 a18 a19 a20 hs)) = .ok (.bl true) hs := by kernel_rfl
theorem end_13 (a0 a1 a3 a4 a5 a6 a7 a8 a9 a10 a11 a12 a13 a14 a15 a16 a17 a18 a19 a20 : Sl) (hs : List D) : toC (sSeq m_law17 m_law18 (stE 1 3 a0 a1 a3 a4 a5 a6 a7 a8 a9 a10 a11 a12 a13 a14 a15 a16 a17 a18 a19 a20 hs)) = .ok (.bl true) hs := by kernel_rfl
theorem end_14 (a0 a1 a3 a4 a5 a6 a7 a8 a9 a10 a11 a12 a13 a14 a15 a16 a17 a18 a19 a20 : Sl) (hs : List D) : toC (sSeq m_law17 m_law18 (stE 1 4 a0 a1 a3 a4 a5 a6 a7 a8 a9 a10 a11 a12 a13 a14 a15 a16 a17 a18 a19 a20 hs)) = .ok (.bl true) hs := by kernel_rfl
theorem end_15 (a0 a1 a3 a4 a5 a6 a7 a8 a9 a10 a11 a12 a13 a14 a15 a16 a17 a18 a19 a20 : Sl) (hs : List D) : toC (sSeq m_law17 m_law18 (stE 1 5 a0 a1 a3 a4 a5 a6 a7 a8 a9 a10 a11 a12 a13 a14 a15 a16 a17 a18 a19 a20 hs)) = .ok (.bl true) hs := by kernel_rfl
theorem end_21 (a0 a1 a3 a4 a5 a6 a7 a8 a9 a10 a11 a12 a13 a14 a15 a16 a17 a18 a19 a20 : Sl) (hs : List D) : toC (sSeq m_law17 m_law18 (stE 2 1 a0 a1 a3 a4 a5 a6 a7 a8 a9 a10 a11 a12 a13 a14 a15 a16 a17 a18 a19 a20 hs)) = .ok (.bl true) hs := by kernel_rfl
theorem end_22 (a0 a1 a3 a4 a5 a6 a7 a8 a9 a10 a11 a12 a13 a14 a15 a16 a17 a18 a19 a20 : Sl) (hs : List D) : toC (sSeq m_law17 m_law18 (stE 2 2 a0 a1 a3 a4 a5 a6 a7 a8 a9 a10 a11 a12 a13 a14 a15 a16 a17 a18 a19 a20 hs)) = .ok (.bl true) hs := by kernel_rfl
theorem end_23 (a0 a1 a3 a4 a5 a6 a7 a8 a9 a10 a11 a12 a13 a14 a15 a16 a17 a18 a19 a20 : Sl) (hs : List D) : toC (sSeq m_law17 m_law18 (stE 2 3 a0 a1 a3 a4 a5 a6 a7 a8 a9 a10 a11 a12 a13 a14 a15 a16 a17 a18 a19 a20 hs)) = .ok (.bl true) hs := by kernel_rfl
theorem end_24 (a0 a1 a3 a4 a5 a6 a7 a8 a9 a10 a11 a12 a13 a14 a15 a16 a17 a18 a19 a20 : Sl) (hs : List D) : toC (sSeq m_law17 m_law18 (stE 2 4 a0 a1 a3 a4 a5 a6 a7 a8 a9 a10 a11 a12 a13 a14 a15 a16 a17 a18 a19 a20 hs)) = .ok (.bl true) hs := by kernel_rfl
theorem end_25 (a0 a1 a3 a4 a5 a6 a7 a8 a9 a10 a11 a12 a13 a14 a15 a16 a17 a18 a19 a20 : Sl) (hs : List D) : toC (sSeq m_law17 m_law18 (stE 2 5 a0 a1 a3 a4 a5 a6 a7 a8 a9 a10 a11 a12 a13 a14 a15 a16 a17 a18 a19 a20 hs)) = .ok (.bl true) hs := by kernel_rfl
theorem end_31 (a0 a1 a3 a4 a5 a6 a7 a8 a9 a10 a11 a12 a13 a14 a15 a16 a17 a18 a19 a20 : Sl) (hs : List D) : toC (sSeq m_law17 m_law18 (stE 3 1 a0 a1 a3 a4 a5 a6 a7 a8 a9 a10 a11 a12 a13 a14 a15 a16 a17 a18 a19 a20 hs)) = .ok (.bl true) hs := by kernel_rfl
theorem end_32 (a0 a1 a3 a4 a5 a6 a7 a8 a9 a10 a11 a12 a13 a14 a15 a16 a17 a18 a19 a20 : Sl) (hs : List D) : toC (sSeq m_law17 m_law18 (stE 3 2 a0 a1 a3 a4 a5 a6 a7 a8 a9 a10 a11 a12 a13 a14 a15 a16 a17 a18 a19 a20 hs)) = .ok (.bl true) hs := by kernel_rfl
theorem end_33 (a0 a1 a3 a4 a5 a6 a7 a8 a9 a10 a11 a12 a13 a14 a15 a16 a17 a18 a19 a20 : Sl) (hs : List D) : toC (sSeq m_law17 m_law18 (stE 3 3 a0 a1 a3 a4 a5 a6 a7 a8 a9 a10 a11 a12 a13 a14 a15 a16 a17 a18 a19 a20 hs)) = .ok (.bl true) hs := by kernel_rfl
theorem end_34 (a0 a1 a3 a4 a5 a6 a7 a8 a9 a10 a11 a12 a13 a14 a15 a16 a17 a18 a19 a20 : Sl) (hs : List D) : toC (sSeq m_law17 m_law18 (stE 3 4 a0 a1 a3 a4 a5 a6 a7 a8 a9 a10 a11 a12 a13 a14 a15 a16 a17 a18 a19 a20 hs)) = .ok (.bl true) hs := by kernel_rfl
theorem end_35 (a0 a1 a3 a4 a5 a6 a7 a8 a9 a10 a11 a12 a13 a14 a15 a16 a17 a18 a19 a20 : Sl) (hs : List D) : toC (sSeq m_law17 m_law18 (stE 3 5 a0 a1 a3 a4 a5 a6 a7 a8 a9 a10 a11 a12 a13 a14 a15 a16 a17 a18 a19 a20 hs)) = .ok (.bl true) hs := by kernel_rfl
end K03

set_option Elab.async false
set_option linter.all false
set_option maxRecDepth 100000
set_option maxHeartbeats 4000000
/-! K03, part P6: the law's rows. -/
namespace K03
open PySem Rf
def st8 (m T : Int) (a0 a1 a3 a4 a5 a6 a7 a8 : Sl) (hs : List D) (b13 b14 b15 : Sl) : Stt := ⟨[a0, a1, .val (fD m T), a3, a4, a5, a6, a7, a8, .no, .no, .val (.lst (rowsD (evL m T))), .no, b13, b14, b15, .no, .no, .no, .no, .no, .no, .no, .no], hs, []⟩
theorem law8_01 (a0 a1 a3 a4 a5 a6 a7 a8 : Sl) (hs : List D) : m_law8 (st8 0 1 a0 a1 a3 a4 a5 a6 a7 a8 hs .no .no .no) = .nx (st8 0 1 a0 a1 a3 a4 a5 a6 a7 a8 hs (.val (.int 4)) (.val (.lst (rowsD (lenL 4 (evL 0 1))))) (.val (sn 0 1 4))) := by kernel_rfl
theorem law8_02 (a0 a1 a3 a4 a5 a6 a7 a8 : Sl) (hs : List D) : m_law8 (st8 0 2 a0 a1 a3 a4 a5 a6 a7 a8 hs .no .no .no) = .nx (st8 0 2 a0 a1 a3 a4 a5 a6 a7 a8 hs (.val (.int 4)) (.val (.lst (rowsD (lenL 4 (evL 0 2))))) (.val (sn 0 2 4))) := by kernel_rfl
theorem law8_03 (a0 a1 a3 a4 a5 a6 a7 a8 : Sl) (hs : List D) : m_law8 (st8 0 3 a0 a1 a3 a4 a5 a6 a7 a8 hs .no .no .no) = .nx (st8 0 3 a0 a1 a3 a4 a5 a6 a7 a8 hs (.val (.int 4)) (.val (.lst (rowsD (lenL 4 (evL 0 3))))) (.val (sn 0 3 4))) := by kernel_rfl
theorem law8_04 (a0 a1 a3 a4 a5 a6 a7 a8 : Sl) (hs : List D) : m_law8 (st8 0 4 a0 a1 a3 a4 a5 a6 a7 a8 hs .no .no .no) = .nx (st8 0 4 a0 a1 a3 a4 a5 a6 a7 a8 hs (.val (.int 4)) (.val (.lst (rowsD (lenL 4 (evL 0 4))))) (.val (sn 0 4 4))) := by kernel_rfl
theorem law8_05 (a0 a1 a3 a4 a5 a6 a7 a8 : Sl) (hs : List D) : m_law8 (st8 0 5 a0 a1 a3 a4 a5 a6 a7 a8 hs .no .no .no) = .nx (st8 0 5 a0 a1 a3 a4 a5 a6 a7 a8 hs (.val (.int 4)) (.val (.lst (rowsD (lenL 4 (evL 0 5))))) (.val (sn 0 5 4))) := by kernel_rfl
theorem law8_11 (a0 a1 a3 a4 a5 a6 a7 a8 : Sl) (hs : List D) : m_law8 (st8 1 1 a0 a1 a3 a4 a5 a6 a7 a8 hs .no .no .no) = .nx (st8 1 1 a0 a1 a3 a4 a5 a6 a7 a8 hs (.val (.int 4)) (.val (.lst (rowsD (lenL 4 (evL 1 1))))) (.val (sn 1 1 4))) := by kernel_rfl
theorem law8_12 (a0 a1 a3 a4 a5 a6 a7 a8 : Sl) (hs : List D) : m_law8 (st8 1 2 a0 a1 a3 a4 a5 a6 a7 a8 hs .no .no .no) = .nx (st8 1 2 a0 a1 a3 a4 a5 a6 a7 a8 hs (.val (.int 4)) (.val (.lst (rowsD (lenL 4 (evL 1 2))))) (.val (sn 1 2 4))) := by kernel_rfl
theorem law8_13 (a0 a1 a3 a4 a5 a6 a7 a8 : Sl) (hs : List D) : m_law8 (st8 1 3 a0 a1 a3 a4 a5 a6 a7 a8 hs .no .no .no) = .nx (st8 1 3 a0 a1 a3 a4 a5 a6 a7 a8 hs (.val (.int 4)) (.val (.lst (rowsD (lenL 4 (evL 1 3))))) (.val (sn 1 3 4))) := by kernel_rfl
theorem law8_14 (a0 a1 a3 a4 a5 a6 a7 a8 : Sl) (hs : List D) : m_law8 (st8 1 4 a0 a1 a3 a4 a5 a6 a7 a8 hs .no .no .no) = .nx (st8 1 4 a0 a1 a3 a4 a5 a6 a7 a8 hs (.val (.int 4)) (.val (.lst (rowsD (lenL 4 (evL 1 4))))) (.val (sn 1 4 4))) := by kernel_rfl
theorem law8_15 (a0 a1 a3 a4 a5 a6 a7 a8 : Sl) (hs : List D) : m_law8 (st8 1 5 a0 a1 a3 a4 a5 a6 a7 a8 hs .no .no .no) = .nx (st8 1 5 a0 a1 a3 a4 a5 a6 a7 a8 hs (.val (.int 4)) (.val (.lst (rowsD (lenL 4 (evL 1 5))))) (.val (sn 1 5 4))) := by kernel_rfl
theorem law8_21 (a0 a1 a3 a4 a5 a6 a7 a8 : Sl) (hs : List D) : m_law8 (st8 2 1 a0 a1 a3 a4 a5 a6 a7 a8 hs .no .no .no) = .nx (st8 2 1 a0 a1 a3 a4 a5 a6 a7 a8 hs (.val (.int 4)) (.val (.lst (rowsD (lenL 4 (evL 2 1))))) (.val (sn 2 1 4))) := by kernel_rfl
theorem law8_22 (a0 a1 a3 a4 a5 a6 a7 a8 : Sl) (hs : List D) : m_law8 (st8 2 2 a0 a1 a3 a4 a5 a6 a7 a8 hs .no .no .no) = .nx (st8 2 2 a0 a1 a3 a4 a5 a6 a7 a8 hs (.val (.int 4)) (.val (.lst (rowsD (lenL 4 (evL 2 2))))) (.val (sn 2 2 4))) := by kernel_rfl
theorem law8_23 (a0 a1 a3 a4 a5 a6 a7 a8 : Sl) (hs : List D) : m_law8 (st8 2 3 a0 a1 a3 a4 a5 a6 a7 a8 hs .no .no .no) = .nx (st8 2 3 a0 a1 a3 a4 a5 a6 a7 a8 hs (.val (.int 4)) (.val (.lst (rowsD (lenL 4 (evL 2 3))))) (.val (sn 2 3 4))) := by kernel_rfl
theorem law8_24 (a0 a1 a3 a4 a5 a6 a7 a8 : Sl) (hs : List D) : m_law8 (st8 2 4 a0 a1 a3 a4 a5 a6 a7 a8 hs .no .no .no) = .nx (st8 2 4 a0 a1 a3 a4 a5 a6 a7 a8 hs (.val (.int 4)) (.val (.lst (rowsD (lenL 4 (evL 2 4))))) (.val (sn 2 4 4))) := by kernel_rfl
theorem law8_25 (a0 a1 a3 a4 a5 a6 a7 a8 : Sl) (hs : List D) : m_law8 (st8 2 5 a0 a1 a3 a4 a5 a6 a7 a8 hs .no .no .no) = .nx (st8 2 5 a0 a1 a3 a4 a5 a6 a7 a8 hs (.val (.int 4)) (.val (.lst (rowsD (lenL 4 (evL 2 5))))) (.val (sn 2 5 4))) := by kernel_rfl
theorem law8_31 (a0 a1 a3 a4 a5 a6 a7 a8 : Sl) (hs : List D) : m_law8 (st8 3 1 a0 a1 a3 a4 a5 a6 a7 a8 hs .no .no .no) = .nx (st8 3 1 a0 a1 a3 a4 a5 a6 a7 a8 hs (.val (.int 4)) (.val (.lst (rowsD (lenL 4 (evL 3 1))))) (.val (sn 3 1 4))) := by kernel_rfl
theorem law8_32 (a0 a1 a3 a4 a5 a6 a7 a8 : Sl) (hs : List D) : m_law8 (st8 3 2 a0 a1 a3 a4 a5 a6 a7 a8 hs .no .no .no) = .nx (st8 3 2 a0 a1 a3 a4 a5 a6 a7 a8 hs (.val (.int 4)) (.val (.lst (rowsD (lenL 4 (evL 3 2))))) (.val (sn 3 2 4))) := by kernel_rfl
theorem law8_33 (a0 a1 a3 a4 a5 a6 a7 a8 : Sl) (hs : List D) : m_law8 (st8 3 3 a0 a1 a3 a4 a5 a6 a7 a8 hs .no .no .no) = .nx (st8 3 3 a0 a1 a3 a4 a5 a6 a7 a8 hs (.val (.int 4)) (.val (.lst (rowsD (lenL 4 (evL 3 3))))) (.val (sn 3 3 4))) := by kernel_rfl
theorem law8_34 (a0 a1 a3 a4 a5 a6 a7 a8 : Sl) (hs : List D) : m_law8 (st8 3 4 a0 a1 a3 a4 a5 a6 a7 a8 hs .no .no .no) = .nx (st8 3 4 a0 a1 a3 a4 a5 a6 a7 a8 hs (.val (.int 4)) (.val (.lst (rowsD (lenL 4 (evL 3 4))))) (.val (sn 3 4 4))) := by kernel_rfl
theorem law8_35 (a0 a1 a3 a4 a5 a6 a7 a8 : Sl) (hs : List D) : m_law8 (st8 3 5 a0 a1 a3 a4 a5 a6 a7 a8 hs .no .no .no) = .nx (st8 3 5 a0 a1 a3 a4 a5 a6 a7 a8 hs (.val (.int 4)) (.val (.lst (rowsD (lenL 4 (evL 3 5))))) (.val (sn 3 5 4))) := by kernel_rfl
end K03

set_option Elab.async false
set_option linter.all false
set_option maxRecDepth 100000
set_option maxHeartbeats 2000000
/-! K03, part P19: the law holds of the pieces. -/
namespace K03
open PySem Rf
theorem law8_all (m T : Nat) (hm : m < 4) (h1 : 1 ≤ T) (h2 : T ≤ 5) (a0 a1 a3 a4 a5 a6 a7 a8 : Sl) (hs : List D) : m_law8 (st8 (m : Nat) (T : Nat) a0 a1 a3 a4 a5 a6 a7 a8 hs .no .no .no) = .nx (st8 (m : Nat) (T : Nat) a0 a1 a3 a4 a5 a6 a7 a8 hs (.val (.int 4)) (.val (.lst (rowsD (lenL 4 (evL (m : Nat) (T : Nat)))))) (.val (sn (m : Nat) (T : Nat) 4))) := by
  have a : m = 0 ∨ m = 1 ∨ m = 2 ∨ m = 3 := by omega
  have b : T = 1 ∨ T = 2 ∨ T = 3 ∨ T = 4 ∨ T = 5 := by omega
  rcases a with rfl | rfl | rfl | rfl
  · rcases b with rfl | rfl | rfl | rfl | rfl
    · exact law8_01 a0 a1 a3 a4 a5 a6 a7 a8 hs
    · exact law8_02 a0 a1 a3 a4 a5 a6 a7 a8 hs
    · exact law8_03 a0 a1 a3 a4 a5 a6 a7 a8 hs
    · exact law8_04 a0 a1 a3 a4 a5 a6 a7 a8 hs
    · exact law8_05 a0 a1 a3 a4 a5 a6 a7 a8 hs
  · rcases b with rfl | rfl | rfl | rfl | rfl
    · exact law8_11 a0 a1 a3 a4 a5 a6 a7 a8 hs
    · exact law8_12 a0 a1 a3 a4 a5 a6 a7 a8 hs
    · exact law8_13 a0 a1 a3 a4 a5 a6 a7 a8 hs
    · exact law8_14 a0 a1 a3 a4 a5 a6 a7 a8 hs
    · exact law8_15 a0 a1 a3 a4 a5 a6 a7 a8 hs
  · rcases b with rfl | rfl | rfl | rfl | rfl
    · exact law8_21 a0 a1 a3 a4 a5 a6 a7 a8 hs
    · exact law8_22 a0 a1 a3 a4 a5 a6 a7 a8 hs
    · exact law8_23 a0 a1 a3 a4 a5 a6 a7 a8 hs
    · exact law8_24 a0 a1 a3 a4 a5 a6 a7 a8 hs
    · exact law8_25 a0 a1 a3 a4 a5 a6 a7 a8 hs
  · rcases b with rfl | rfl | rfl | rfl | rfl
    · exact law8_31 a0 a1 a3 a4 a5 a6 a7 a8 hs
    · exact law8_32 a0 a1 a3 a4 a5 a6 a7 a8 hs
    · exact law8_33 a0 a1 a3 a4 a5 a6 a7 a8 hs
    · exact law8_34 a0 a1 a3 a4 a5 a6 a7 a8 hs
    · exact law8_35 a0 a1 a3 a4 a5 a6 a7 a8 hs
theorem end_all (m T : Nat) (hm : m < 4) (h1 : 1 ≤ T) (h2 : T ≤ 5) (a0 a1 a3 a4 a5 a6 a7 a8 a9 a10 a11 a12 a13 a14 a15 a16 a17 a18 a19 a20 : Sl) (hs : List D) : toC (sSeq m_law17 m_law18 (stE (m : Nat) (T : Nat) a0 a1 a3 a4 a5 a6 a7 a8 a9 a10 a11 a12 a13 a14 a15 a16 a17 a18 a19 a20 hs)) = .ok (.bl true) hs := by
  have a : m = 0 ∨ m = 1 ∨ m = 2 ∨ m = 3 := by omega
  have b : T = 1 ∨ T = 2 ∨ T = 3 ∨ T = 4 ∨ T = 5 := by omega
  rcases a with rfl | rfl | rfl | rfl
  · rcases b with rfl | rfl | rfl | rfl | rfl
    · exact end_01 a0 a1 a3 a4 a5 a6 a7 a8 a9 a10 a11 a12 a13 a14 a15 a16 a17 a18 a19 a20 hs
    · exact end_02 a0 a1 a3 a4 a5 a6 a7 a8 a9 a10 a11 a12 a13 a14 a15 a16 a17 a18 a19 a20 hs
    · exact end_03 a0 a1 a3 a4 a5 a6 a7 a8 a9 a10 a11 a12 a13 a14 a15 a16 a17 a18 a19 a20 hs
    · exact end_04 a0 a1 a3 a4 a5 a6 a7 a8 a9 a10 a11 a12 a13 a14 a15 a16 a17 a18 a19 a20 hs
    · exact end_05 a0 a1 a3 a4 a5 a6 a7 a8 a9 a10 a11 a12 a13 a14 a15 a16 a17 a18 a19 a20 hs
  · rcases b with rfl | rfl | rfl | rfl | rfl
    · exact end_11 a0 a1 a3 a4 a5 a6 a7 a8 a9 a10 a11 a12 a13 a14 a15 a16 a17 a18 a19 a20 hs
    · exact end_12 a0 a1 a3 a4 a5 a6 a7 a8 a9 a10 a11 a12 a13 a14 a15 a16 a17 a18 a19 a20 hs
    · exact end_13 a0 a1 a3 a4 a5 a6 a7 a8 a9 a10 a11 a12 a13 a14 a15 a16 a17 a18 a19 a20 hs
    · exact end_14 a0 a1 a3 a4 a5 a6 a7 a8 a9 a10 a11 a12 a13 a14 a15 a16 a17 a18 a19 a20 hs
    · exact end_15 a0 a1 a3 a4 a5 a6 a7 a8 a9 a10 a11 a12 a13 a14 a15 a16 a17 a18 a19 a20 hs
  · rcases b with rfl | rfl | rfl | rfl | rfl
    · exact end_21 a0 a1 a3 a4 a5 a6 a7 a8 a9 a10 a11 a12 a13 a14 a15 a16 a17 a18 a19 a20 hs
    · exact end_22 a0 a1 a3 a4 a5 a6 a7 a8 a9 a10 a11 a12 a13 a14 a15 a16 a17 a18 a19 a20 hs
    · exact end_23 a0 a1 a3 a4 a5 a6 a7 a8 a9 a10 a11 a12 a13 a14 a15 a16 a17 a18 a19 a20 hs
    · exact end_24 a0 a1 a3 a4 a5 a6 a7 a8 a9 a10 a11 a12 a13 a14 a15 a16 a17 a18 a19 a20 hs
    · exact end_25 a0 a1 a3 a4 a5 a6 a7 a8 a9 a10 a11 a12 a13 a14 a15 a16 a17 a18 a19 a20 hs
  · rcases b with rfl | rfl | rfl | rfl | rfl
    · exact end_31 a0 a1 a3 a4 a5 a6 a7 a8 a9 a10 a11 a12 a13 a14 a15 a16 a17 a18 a19 a20 hs
    · exact end_32 a0 a1 a3 a4 a5 a6 a7 a8 a9 a10 a11 a12 a13 a14 a15 a16 a17 a18 a19 a20 hs
    · exact end_33 a0 a1 a3 a4 a5 a6 a7 a8 a9 a10 a11 a12 a13 a14 a15 a16 a17 a18 a19 a20 hs
    · exact end_34 a0 a1 a3 a4 a5 a6 a7 a8 a9 a10 a11 a12 a13 a14 a15 a16 a17 a18 a19 a20 hs
    · exact end_35 a0 a1 a3 a4 a5 a6 a7 a8 a9 a10 a11 a12 a13 a14 a15 a16 a17 a18 a19 a20 hs
theorem nx {p q : MS} {s s' : Stt} (h : p s = .nx s') : sSeq p q s = q s' := by unfold sSeq; rw [h]
theorem hrun (ns : List Int) (hl : ns.length ≤ 63) (_hb : ∀ z ∈ ns, Builtin.Int.intBits z ≤ 1048576) : ∃ hs', runFn N_law.length 1 p_law [.frl (ns.map D.int)] [] = .ok (.bl true) hs' := by
  obtain ⟨m, T, hm, h1, h2, q1⟩ := law1_is ns hl
  obtain ⟨xs, l, k, a, hx, hu, q2⟩ := law2_is ns hl m T
  have q3 := law3_is ns xs m T h1 hx hu l k a
  obtain ⟨q, t, hq, t1, t2, q4⟩ := law4_is ns xs hl m T l k a
  have q5 := law5_is ns xs m T l (k + 2) a q t hx
  have q6 := law6_is ns xs m T l (k + 2) a q t hx hu hq t1 t2
  have q7 := law7_is ns xs m T l [bx ns (k + 2)] a q t
  have q8 : m_law8 ⟨[.val (.frl (iD ns)), .val (.box 0), .val (fD (m : Nat) (T : Nat)), .val (.lst (iD xs)), .val (.int l), a, .val (.int (q : Nat)), .val (.int (t : Nat)), .val (.lst (iD (plL xs (t : Nat) (q : Nat)))), .no, .no, .val (.lst (rowsD (evL (m : Nat) (T : Nat)))), .no, .no, .no, .no, .no, .no, .no, .no, .no, .no, .no, .no], [bx ns (k + 2)], []⟩ = .nx ⟨[.val (.frl (iD ns)), .val (.box 0), .val (fD (m : Nat) (T : Nat)), .val (.lst (iD xs)), .val (.int l), a, .val (.int (q : Nat)), .val (.int (t : Nat)), .val (.lst (iD (plL xs (t : Nat) (q : Nat)))), .no, .no, .val (.lst (rowsD (evL (m : Nat) (T : Nat)))), .no, .val (.int 4), .val (.lst (rowsD (lenL 4 (evL (m : Nat) (T : Nat))))), .val (sn (m : Nat) (T : Nat) 4), .no, .no, .no, .no, .no, .no, .no, .no], [bx ns (k + 2)], []⟩ := law8_all m T hm h1 h2 _ _ _ _ _ _ _ _ _
  have q9 := law9_is ns xs m T l [bx ns (k + 2)] a q t
  have q10 := law10_is ns xs m T l [bx ns (k + 2)] a q t hm h1 h2 t1 t2
  have q11 := law11_is ns xs m T l [bx ns (k + 2)] a q t hm h1 h2 hq t1 t2
  have q12 := law12_is ns xs m T l [bx ns (k + 2)] a q t hm h1 h2 hq t1 t2
  obtain ⟨y12, y19, q13⟩ := law13_is ns xs m T l [bx ns (k + 2)] a q t hm h1 h2 hq t1 t2
  have q14 := law14_is ns xs m T l [bx ns (k + 2)] a y12 y19 q t hm h1 h2 hq t1 t2
  have q15 := law15_is ns xs m T l [bx ns (k + 2)] a y12 y19 q t hm h1 h2
  have q16 := law16_is ns xs m T l [bx ns (k + 2)] a y12 y19 q t hm h1 h2 hq
  have q17 : toC (sSeq m_law17 m_law18 ⟨[.val (.frl (iD ns)), .val (.box 0), .val (fD (m : Nat) (T : Nat)), .val (.lst (iD xs)), .val (.int l), a, .val (.int (q : Nat)), .val (.int (t : Nat)), .val (.lst (iD (plL xs (t : Nat) (q : Nat)))), .no, .no, .val (.lst (rowsD (evL (m : Nat) (T : Nat)))), y12, .val (.int 4), .val (.lst (rowsD (lenL 4 (evL (m : Nat) (T : Nat))))), .val (sn (m : Nat) (T : Nat) 4), .no, .val (.int (topI (m : Nat) (T : Nat) (t : Nat))), .val (jd q (t : Nat) (m : Nat) (T : Nat)), y19, .val (.lst (iD (gtL (m : Nat) (T : Nat) (q : Nat)))), .no, .no, .no], [bx ns (k + 2)], []⟩) = .ok (.bl true) [bx ns (k + 2)] := end_all m T hm h1 h2 _ _ _ _ _ _ _ _ _ _ _ _ _ _ _ _ _ _ _ _ _
  refine ⟨[bx ns (k + 2)], ?_⟩
  show toC (p_law ⟨[.val (.frl (iD ns)), .no, .no, .no, .no, .no, .no, .no, .no, .no, .no, .no, .no, .no, .no, .no, .no, .no, .no, .no, .no, .no, .no, .no], [], []⟩) = _
  unfold p_law
  rw [nx (law0_is ns), nx q1, nx q2, nx q3, nx q4, nx q5, nx q6, nx q7, nx q8, nx q9, nx q10, nx q11, nx q12, nx q13, nx q14, nx q15, nx q16]
  exact q17
end K03
set_option Elab.async false
set_option linter.all false
set_option maxRecDepth 100000
open PySem PySem.W PyProof.Rows in
set_option maxRecDepth 100000 in
set_option maxHeartbeats 0 in
theorem PySem.Challenge.cw_watchedhands_k03_whole_windows_holds : PySem.Challenge.rw_watchedhands_k03_whole_windows.Holds := by
  w_on; o_law; k_head; (case hw => w_witness2)
  k_fill
  refine LamX.walk_ofOwn (l := PySem.Challenge.rw_watchedhands_k03_whole_windows) (n := 63) (k := 31) (x := "script") (CX := fun w => L2.CX (PySem.Challenge.rw_watchedhands_k03_whole_windows).prog w) rfl (by rw [sizeLine_eq]; decide) rfl ⟨rfl, by decide, by decide⟩ (by first | rfl | decide +kernel) (fun w h Y => Y.1) ?F ?S
  case S =>
    intro w H s e s' z
    obtain ⟨a, B, H1, cls, d, z1, z2, z3, z4, z5, z6, z7, z8⟩ := z
    exact z8
  case F =>
    intro w mg fa h Y KX G hmg own
    refine' K03.law_all KX G hmg own ?aC1 ?aC2 ?aC3 ?aC4 ?aC5 ?z_isinstance ?z_int ?z_bool ?z_list ?z_tuple ?z_enumerate ?z_all ?z_any ?z_len ?z_range ?z_max ?z_min ?z_zip ?z_sorted ?a_is_integer ?l_is_integer ?c_is_integer ?k_is_integer ?a_is_row ?l_is_row ?c_is_row ?k_is_row ?a_is_number ?l_is_number ?c_is_number ?k_is_number ?a_check_number ?l_check_number ?c_check_number ?k_check_number ?a_check_faults ?l_check_faults ?c_check_faults ?k_check_faults ?a_check_falls ?l_check_falls ?c_check_falls ?k_check_falls ?a_within ?l_within ?c_within ?k_within ?a_are_within ?l_are_within ?c_are_within ?k_are_within ?a_first_beyond ?l_first_beyond ?c_first_beyond ?k_first_beyond ?a_soonest ?l_soonest ?c_soonest ?k_soonest ?a_span_of ?l_span_of ?c_span_of ?k_span_of ?a_check_bound ?l_check_bound ?c_check_bound ?k_check_bound ?a_most_within ?l_most_within ?c_most_within ?k_most_within ?a_judge_bound ?l_judge_bound ?c_judge_bound ?k_judge_bound ?a_least_most ?l_least_most ?c_least_most ?k_least_most ?a_greatest_ticks ?l_greatest_ticks ?c_greatest_ticks ?k_greatest_ticks ?a__law_number ?l__law_number ?c__law_number ?k__law_number ?a__law_take ?l__law_take ?c__law_take ?k__law_take ?a__law_refused ?l__law_refused ?c__law_refused ?k__law_refused ?a__law_most ?l__law_most ?c__law_most ?k__law_most ?a__law_rows ?l__law_rows ?c__law_rows ?k__law_rows ?a_Faults_init ?i_Faults_init ?l_Faults_init ?c_Faults_init ?k_Faults_init ?pg3 ?hd3 ?po3 ?sa3 ?ha3 ?hm3 ?mk3 ?kc3 ?n3_many ?n3_ticks ?a_Bears_init ?i_Bears_init ?l_Bears_init ?c_Bears_init ?k_Bears_init ?pg4 ?hd4 ?po4 ?sa4 ?ha4 ?hm4 ?mk4 ?kc4 ?n4_many ?a_Passed_init ?i_Passed_init ?l_Passed_init ?c_Passed_init ?k_Passed_init ?pg5 ?hd5 ?po5 ?sa5 ?ha5 ?hm5 ?mk5 ?kc5 ?n5_falls ?a_Faults_eq ?i_Faults_eq ?l_Faults_eq ?c_Faults_eq ?k_Faults_eq ?a_Bears_bool ?i_Bears_bool ?l_Bears_bool ?c_Bears_bool ?k_Bears_bool ?a_Bears_eq ?i_Bears_eq ?l_Bears_eq ?c_Bears_eq ?k_Bears_eq ?a_Bears_shows ?i_Bears_shows ?l_Bears_shows ?c_Bears_shows ?k_Bears_shows ?a_Passed_bool ?i_Passed_bool ?l_Passed_bool ?c_Passed_bool ?k_Passed_bool ?a_Passed_eq ?i_Passed_eq ?l_Passed_eq ?c_Passed_eq ?k_Passed_eq ?a_Passed_shows ?i_Passed_shows ?l_Passed_shows ?c_Passed_shows ?k_Passed_shows ?hng ?htk ?nf3_3 ?nf4_4 ?nf5_5 ?ne4 ?ne5 ?ki0 ?ki1 ?ki2 ?ki3 ?ki4 ?ki5 ?ki6 ?ki7 ?ki8 ?ki9 ?ki10 ?ki11 ?ki12 ?ki13 ?xL1 ?xs1 ?xg1 ?xt1 ?xe1 ?xy1 ?xk1 ?xh1 ?xc1 ?xb1 ?a_BadPart_init ?t_BadPart_init ?l_BadPart_init ?c_BadPart_init ?k_BadPart_init ?xn1_part ?xn1_place ?a_law ?l_law ?c_law ?k_law ?tc ?tv ?tn ?th ?hrun
    (case aC1 => k_is)
    (case aC2 => k_is)
    (case aC3 => k_is)
    (case aC4 => k_is)
    (case aC5 => k_is)
    (case z_isinstance => k_is)
    (case z_int => k_is)
    (case z_bool => k_is)
    (case z_list => k_is)
    (case z_tuple => k_is)
    (case z_enumerate => k_is)
    (case z_all => k_is)
    (case z_any => k_is)
    (case z_len => k_is)
    (case z_range => k_is)
    (case z_max => k_is)
    (case z_min => k_is)
    (case z_zip => k_is)
    (case z_sorted => k_is)
    (case a_is_integer => k_is)
    (case l_is_integer => k_is)
    (case c_is_integer => k_is)
    (case k_is_integer => k_is)
    (case a_is_row => k_is)
    (case l_is_row => k_is)
    (case c_is_row => k_is)
    (case k_is_row => k_is)
    (case a_is_number => k_is)
    (case l_is_number => k_is)
    (case c_is_number => k_is)
    (case k_is_number => k_is)
    (case a_check_number => k_is)
    (case l_check_number => k_is)
    (case c_check_number => k_is)
    (case k_check_number => k_is)
    (case a_check_faults => k_is)
    (case l_check_faults => k_is)
    (case c_check_faults => k_is)
    (case k_check_faults => k_is)
    (case a_check_falls => k_is)
    (case l_check_falls => k_is)
    (case c_check_falls => k_is)
    (case k_check_falls => k_is)
    (case a_within => k_is)
    (case l_within => k_is)
    (case c_within => k_is)
    (case k_within => k_is)
    (case a_are_within => k_is)
    (case l_are_within => k_is)
    (case c_are_within => k_is)
    (case k_are_within => k_is)
    (case a_first_beyond => k_is)
    (case l_first_beyond => k_is)
    (case c_first_beyond => k_is)
    (case k_first_beyond => k_is)
    (case a_soonest => k_is)
    (case l_soonest => k_is)
    (case c_soonest => k_is)
    (case k_soonest => k_is)
    (case a_span_of => k_is)
    (case l_span_of => k_is)
    (case c_span_of => k_is)
    (case k_span_of => k_is)
    (case a_check_bound => k_is)
    (case l_check_bound => k_is)
    (case c_check_bound => k_is)
    (case k_check_bound => k_is)
    (case a_most_within => k_is)
    (case l_most_within => k_is)
    (case c_most_within => k_is)
    (case k_most_within => k_is)
    (case a_judge_bound => k_is)
    (case l_judge_bound => k_is)
    (case c_judge_bound => k_is)
    (case k_judge_bound => k_is)
    (case a_least_most => k_is)
    (case l_least_most => k_is)
    (case c_least_most => k_is)
    (case k_least_most => k_is)
    (case a_greatest_ticks => k_is)
    (case l_greatest_ticks => k_is)
    (case c_greatest_ticks => k_is)
    (case k_greatest_ticks => k_is)
    (case a__law_number => k_is)
    (case l__law_number => k_is)
    (case c__law_number => k_is)
    (case k__law_number => k_is)
    (case a__law_take => k_is)
    (case l__law_take => k_is)
    (case c__law_take => k_is)
    (case k__law_take => k_is)
    (case a__law_refused => k_is)
    (case l__law_refused => k_is)
    (case c__law_refused => k_is)
    (case k__law_refused => k_is)
    (case a__law_most => k_is)
    (case l__law_most => k_is)
    (case c__law_most => k_is)
    (case k__law_most => k_is)
    (case a__law_rows => k_is)
    (case l__law_rows => k_is)
    (case c__law_rows => k_is)
    (case k__law_rows => k_is)
    (case a_Faults_init => k_is)
    (case i_Faults_init => k_is)
    (case l_Faults_init => k_is)
    (case c_Faults_init => k_is)
    (case k_Faults_init => k_is)
    (case pg3 => k_is)
    (case hd3 => k_is)
    (case po3 => k_is)
    (case sa3 => k_is)
    (case ha3 => k_is)
    (case hm3 => k_is)
    (case mk3 => k_is)
    (case kc3 => k_is)
    (case n3_many => k_is)
    (case n3_ticks => k_is)
    (case a_Bears_init => k_is)
    (case i_Bears_init => k_is)
    (case l_Bears_init => k_is)
    (case c_Bears_init => k_is)
    (case k_Bears_init => k_is)
    (case pg4 => k_is)
    (case hd4 => k_is)
    (case po4 => k_is)
    (case sa4 => k_is)
    (case ha4 => k_is)
    (case hm4 => k_is)
    (case mk4 => k_is)
    (case kc4 => k_is)
    (case n4_many => k_is)
    (case a_Passed_init => k_is)
    (case i_Passed_init => k_is)
    (case l_Passed_init => k_is)
    (case c_Passed_init => k_is)
    (case k_Passed_init => k_is)
    (case pg5 => k_is)
    (case hd5 => k_is)
    (case po5 => k_is)
    (case sa5 => k_is)
    (case ha5 => k_is)
    (case hm5 => k_is)
    (case mk5 => k_is)
    (case kc5 => k_is)
    (case n5_falls => k_is)
    (case a_Faults_eq => k_is)
    (case i_Faults_eq => k_is)
    (case l_Faults_eq => k_is)
    (case c_Faults_eq => k_is)
    (case k_Faults_eq => k_is)
    (case a_Bears_bool => k_is)
    (case i_Bears_bool => k_is)
    (case l_Bears_bool => k_is)
    (case c_Bears_bool => k_is)
    (case k_Bears_bool => k_is)
    (case a_Bears_eq => k_is)
    (case i_Bears_eq => k_is)
    (case l_Bears_eq => k_is)
    (case c_Bears_eq => k_is)
    (case k_Bears_eq => k_is)
    (case a_Bears_shows => k_is)
    (case i_Bears_shows => k_is)
    (case l_Bears_shows => k_is)
    (case c_Bears_shows => k_is)
    (case k_Bears_shows => k_is)
    (case a_Passed_bool => k_is)
    (case i_Passed_bool => k_is)
    (case l_Passed_bool => k_is)
    (case c_Passed_bool => k_is)
    (case k_Passed_bool => k_is)
    (case a_Passed_eq => k_is)
    (case i_Passed_eq => k_is)
    (case l_Passed_eq => k_is)
    (case c_Passed_eq => k_is)
    (case k_Passed_eq => k_is)
    (case a_Passed_shows => k_is)
    (case i_Passed_shows => k_is)
    (case l_Passed_shows => k_is)
    (case c_Passed_shows => k_is)
    (case k_Passed_shows => k_is)
    (case hng => k_is)
    (case htk => k_is)
    (case nf3_3 => k_is)
    (case nf4_4 => k_is)
    (case nf5_5 => k_is)
    (case ne4 => k_is)
    (case ne5 => k_is)
    (case ki0 => first | rfl | k_is)
    (case ki1 => first | rfl | k_is)
    (case ki2 => first | rfl | k_is)
    (case ki3 => first | rfl | k_is)
    (case ki4 => first | rfl | k_is)
    (case ki5 => first | rfl | k_is)
    (case ki6 => first | rfl | k_is)
    (case ki7 => first | rfl | k_is)
    (case ki8 => first | rfl | k_is)
    (case ki9 => first | rfl | k_is)
    (case ki10 => first | rfl | k_is)
    (case ki11 => first | rfl | k_is)
    (case ki12 => first | rfl | k_is)
    (case ki13 => first | rfl | k_is)
    (case xL1 => k_is)
    (case xs1 => k_is)
    (case xg1 => k_is)
    (case xt1 => k_is)
    (case xe1 => k_is)
    (case xy1 => k_is)
    (case xk1 => k_is)
    (case xh1 => k_is)
    (case xc1 => k_is)
    (case xb1 => first | rfl | k_is)
    (case a_BadPart_init => k_is)
    (case t_BadPart_init => k_is)
    (case l_BadPart_init => k_is)
    (case c_BadPart_init => k_is)
    (case k_BadPart_init => k_is)
    (case xn1_part => k_is)
    (case xn1_place => k_is)
    (case a_law => k_is)
    (case l_law => k_is)
    (case c_law => k_is)
    (case k_law => k_is)
    (case tc => k_is)
    (case tv => first | rfl | k_is)
    (case tn => first | rfl | k_is)
    (case th => first | rfl | with_unfolding_all rfl | decide +kernel)
    (case hrun => exact K03.hrun)
