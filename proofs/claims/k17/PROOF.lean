import PyProof.Rows.All
import Wide.All
import OpenK.AllK
import Wide.FinOn
import PySem.Str
import HandS.ForMost
import HandS.Exc
import HandS.WordsExc
import HandS.IsInst
import HandS.Lambda
import HandS.Walk
import HandS.Slots
import HandS.HeadHook1
import HandS.CallSlots
import HandS.Flow
import HandS.ExcOwn
import HandS.Defaults
import PyProof.ReprReads
import PyProof.EqLayable
import HandS.List
import HandS.TupAny
import HandS.TupMul
import HandS.Conv
import HandS.Style
import KE.GoesMore
import PyProof.ReprRoads
import KE.KExcSuper
import HandS.TryOnly
import KE.KTryMore
import KE.KExcIs
import HandS.Deep
import HandS.Dict
import HandS.EndBits
import HandS.HeadHook4
import HandS.HeadWalk
import HandS.Head2
import PyProof.ReprText
import PyProof.FitsInt
import HandS.SlotsOwn
import HandS.Star
import KE.KRevSl
import PyProof.InstNe
import OpenK.KMeth
import OpenK.KOps
import HandS.SortRule
import HandS.SortInts
import HandS.SetFor
import HandS.Zip
import HandS.Rev
import KE.DataFind
import HandS.Head0
import HandS.Head1
import PySem.Challenge.RW_liftwords_k17_rows_of_moves
set_option linter.all false
/-! Lw: the mirror: Python data as values, the state, the monad, and what each construct does. No program in sight. -/
namespace Lw
open PySem

/-- Python data, by value -/
inductive D where
  | non
  | bl (b : Bool)
  | int (i : Int)
  | str (x : Str)
  | tup (xs : List D)
  /-- a pair that zip or enumerate hands on: it is taken apart -/
  | pr (xs : List D)
  | lst (xs : List D)
  | dct (kvs : List (D × D))
  /-- an instance of a class with slots, whose slots are set once -/
  | obj (c : String) (fs : List D)
  /-- an exception of an own class, its fields -/
  | exc (c : String) (fs : List D)
  /-- the state from which a law draws -/
  | dm
  /-- the script -/
  | scr (ns : List Int)
  /-- a list that may be written: the k-th cell of the state -/
  | cel (k : Nat)

instance : Inhabited D := ⟨.non⟩

/-- the drawing state: its numbers; and the lists that may be written -/
structure DSt where
  cells : List Int
  great : List Int
  spot : Nat
  hc : cells.length = 64 ∧ ∀ x ∈ cells, 0 ≤ x ∧ x < 2147483648
  hg : ∀ x ∈ great, 0 ≤ x
  hp : List (List D)

/-- what a slot of a def holds: a value, or a list that only this slot knows -/
inductive Sl where
  | d (x : D)
  | l (xs : List D)
  /-- what is no value: 0 a lambda that was handed in; 1, 2 the cells, the great ones of the drawing state -/
  | f (k : Nat)

structure S where
  σ : List (Option Sl)
  ds : Option DSt

inductive Res (α : Type) where
  | ok (a : α) (s : S)
  | er (x : D) (s : S)
  | no

abbrev M (α : Type) := S → Res α

def ret {α : Type} (a : α) : M α := fun s => .ok a s
def stuck {α : Type} : M α := fun _ => .no
def bnd {α β : Type} (m : M α) (k : α → M β) : M β := fun s => match m s with
  | .ok a s' => k a s'
  | .er x s' => .er x s'
  | .no => .no
def opt {α : Type} : Option α → M α
  | some a => ret a
  | none => stuck

@[simp] theorem bnd_ret {α β : Type} (a : α) (k : α → M β) : bnd (ret a) k = k a := rfl
@[simp] theorem ret_s {α : Type} (a : α) (s : S) : ret a s = .ok a s := rfl
@[simp] theorem stuck_s {α : Type} (s : S) : (stuck : M α) s = .no := rfl
@[simp] theorem opt_some {α : Type} (a : α) : opt (some a) = ret a := rfl
@[simp] theorem opt_none {α : Type} : opt (none : Option α) = stuck := rfl
theorem bnd_ok {α β : Type} {m : M α} {k : α → M β} {s s' : S} {a : α} (h : m s = .ok a s') : bnd m k s = k a s' := by
  unfold bnd
  rw [h]
theorem bnd_er {α β : Type} {m : M α} {k : α → M β} {s s' : S} {x : D} (h : m s = .er x s') : bnd m k s = .er x s' := by
  unfold bnd
  rw [h]
theorem bnd_no {α β : Type} {m : M α} {k : α → M β} {s : S} (h : m s = .no) : bnd m k s = .no := by
  unfold bnd
  rw [h]

/-! ### slots -/
/-- a name that holds a value -/
def mV (i : Nat) : M D := fun s => match s.σ[i]? with
  | some (some (.d x)) => .ok x s
  | _ => .no
/-- what a slot holds, read as a value -/
def rdS (i : Nat) : M D := fun s => match s.σ[i]? with
  | some (some (.d x)) => .ok x s
  | some (some (.l xs)) => .ok (.lst xs) s
  | _ => .no
/-- a list of one's own is given away: from here on it is a value -/
def mZ (i : Nat) : M D := fun s => match s.σ[i]? with
  | some (some (.l xs)) => .ok (.lst xs) { s with σ := s.σ.set i (some (.d (.lst xs))) }
  | _ => .no
def putS (i : Nat) (x : Sl) : M Unit := fun s => if i < s.σ.length then .ok () { s with σ := s.σ.set i (some x) } else .no

/-- an operand: a value; or a name whose list is only looked at when the operation is done -/
inductive Opd where
  | v (m : M D)
  | n (i : Nat)
def Opd.ev : Opd → M D
  | .v m => m
  | .n i => fun s => match s.σ[i]? with
    | some (some _) => .ok .non s
    | _ => .no
def Opd.rd : Opd → D → M D
  | .v _, d => ret d
  | .n i, _ => rdS i

def m1 (f : D → Option D) (o : Opd) : M D := bnd o.ev fun x => bnd (o.rd x) fun a => opt (f a)
def m2 (f : D → D → Option D) (o p : Opd) : M D := bnd o.ev fun x => bnd p.ev fun y => bnd (o.rd x) fun a => bnd (p.rd y) fun b => opt (f a b)
/-- a < b < c: c is asked only if a < b holds -/
def mCh (f g : D → D → Option D) (a b c : M D) : M D := bnd a fun x => bnd b fun y => bnd (opt (f x y)) fun z => match z with
  | .bl true => bnd c fun w => opt (g y w)
  | .bl false => ret (.bl false)
  | _ => stuck

/-! ### arguments -/
def aNil : M (List D) := ret []
def aCons (m : M D) (r : M (List D)) : M (List D) := bnd m fun x => bnd r fun xs => ret (x :: xs)
/-- operands of a built-in: all are reckoned, then looked at -/
def evs : List Opd → M (List D)
  | [] => ret []
  | o :: os => bnd o.ev fun x => bnd (evs os) fun xs => ret (x :: xs)
def rds : List Opd → List D → M (List D)
  | o :: os, x :: xs => bnd (o.rd x) fun a => bnd (rds os xs) fun as => ret (a :: as)
  | _, _ => ret []
def mBi (f : List D → Option D) (os : List Opd) : M D := bnd (evs os) fun xs => bnd (rds os xs) fun as => opt (f as)
def mTup (m : M (List D)) : M D := bnd m fun xs => ret (.tup xs)
def mLst (m : M (List D)) : M D := bnd m fun xs => ret (.lst xs)

/-! ### defs -/
inductive Out where
  | ok (d : D) (ds : Option DSt)
  | er (x : D) (ds : Option DSt)
  | no
abbrev Fn := List D → Option DSt → Out
def call (f : Fn) (xs : List D) : M D := fun s => match f xs s.ds with
  | .ok d ds => .ok d { s with ds := ds }
  | .er x ds => .er x { s with ds := ds }
  | .no => .no
def mCall (f : Fn) (m : M (List D)) : M D := bnd m fun xs => call f xs

/-! ### truth, tests -/
def truth : D → Option Bool
  | .non => some false
  | .bl b => some b
  | .int i => some (i != 0)
  | .str x => if x.length ≤ 16777216 then some ((x.length : Int) != 0) else none
  | .tup xs => some (!xs.isEmpty)
  | .lst xs => some (!xs.isEmpty)
  | _ => none
def asB : D → Option Bool
  | .bl b => some b
  | _ => none
/-- a test that is True or False -/
def tB (m : M D) : M Bool := bnd m fun x => opt (asB x)
/-- any value as a test -/
def tTr (o : Opd) : M Bool := bnd o.ev fun x => bnd (o.rd x) fun a => opt (truth a)
def tNot (m : M Bool) : M Bool := bnd m fun b => ret (!b)
def tAnd (m n : M Bool) : M Bool := bnd m fun b => if b then n else ret false
def tOr (m n : M Bool) : M Bool := bnd m fun b => if b then ret true else n
/-- and, or, not of truth values, as values -/
def mAnd (m n : M D) : M D := bnd m fun x => bnd (opt (asB x)) fun b => if b then n else ret (.bl false)
def mOr (m n : M D) : M D := bnd m fun x => bnd (opt (asB x)) fun b => if b then ret (.bl true) else n
def mNot (m : M D) : M D := bnd m fun x => bnd (opt (asB x)) fun b => ret (.bl (!b))
def mIf (t : M Bool) (a b : M D) : M D := bnd t fun z => if z then a else b

/-! ### statements -/
inductive Fl where
  | nx
  | rt (d : D)
  | bk
  | ct
def sNx : M Fl := ret .nx
def sSeq (a b : M Fl) : M Fl := bnd a fun f => match f with
  | .nx => b
  | .rt d => ret (.rt d)
  | .bk => ret .bk
  | .ct => ret .ct
def sDrop (m : M D) : M Fl := bnd m fun _ => ret .nx
def sRet (m : M D) : M Fl := bnd m fun d => ret (.rt d)
def sRetN : M Fl := ret (.rt .non)
def sBrk : M Fl := ret .bk
def sCnt : M Fl := ret .ct
def sIf (t : M Bool) (a b : M Fl) : M Fl := bnd t fun z => if z then a else b
/-- targets -/
abbrev Tg := D → M Unit
def gV (i : Nat) : Tg := fun d => putS i (.d d)
def gAll : List Tg → List D → M Unit
  | [], [] => ret ()
  | g :: gs, d :: ds => bnd (g d) fun _ => gAll gs ds
  | _, _ => stuck
def gT (gs : List Tg) : Tg := fun d => match d with
  | .tup ds => gAll gs ds
  | .pr ds => gAll gs ds
  | _ => stuck
/-- a target that raises is not carried -/
def cl {α : Type} (m : M α) : M α := fun s => match m s with
  | .ok a s' => .ok a s'
  | _ => .no
def sAsg (m : M D) (g : Tg) : M Fl := bnd m fun d => bnd (cl (g d)) fun _ => ret .nx
/-- x = a new list, which is x's own -/
def sOwn (i : Nat) (m : M (List D)) : M Fl := bnd m fun xs => bnd (putS i (.l xs)) fun _ => ret .nx
/-- x.append(e), x's own list -/
def apS (i : Nat) (d : D) : M Fl := fun s => match s.σ[i]? with
  | some (some (.l xs)) => if xs.length < 16777216 then .ok .nx { s with σ := s.σ.set i (some (.l (xs ++ [d]))) } else .no
  | _ => .no
def sApp (i : Nat) (m : M D) : M Fl := fun s => match s.σ[i]? with
  | some (some (.l _)) => bnd m (apS i) s
  | _ => .no
/-- the place of an index -/
def ixOf (n : Nat) (k : Int) : Option Nat := if 0 ≤ k then (if k < n then some k.toNat else none) else if -(n : Int) ≤ k then some (k + n).toNat else none
/-- x[k] = .., x's own list -/
def ixS (i : Nat) (d z : D) : M Unit := fun s => match z, s.σ[i]? with
  | .int k, some (some (.l xs)) => (match ixOf xs.length k with
    | some j => .ok () { s with σ := s.σ.set i (some (.l (xs.set j d))) }
    | none => .no)
  | _, _ => .no
def gIx (i : Nat) (k : M D) : Tg := fun d s => match s.σ[i]? with
  | some (some (.l _)) => bnd k (ixS i d) s
  | _ => .no
/-- a raise -/
def raise {α : Type} (x : D) : M α := fun s => .er x s
def sRaise (m : M D) : M Fl := bnd m fun x => raise x

/-! ### loops -/
def forL (g : Tg) (b : M Fl) : List D → M Fl
  | [] => ret .nx
  | x :: xs => bnd (cl (g x)) fun _ => bnd b fun f => match f with
    | .nx => forL g b xs
    | .ct => forL g b xs
    | .bk => ret .nx
    | .rt d => ret (.rt d)
def sFor (it : M (List D)) (g : Tg) (b : M Fl) : M Fl := bnd it fun xs => forL g b xs
def whileN (t : M Bool) (b : M Fl) : Nat → M Fl
  | 0 => stuck
  | n + 1 => bnd t fun z => if z then bnd b fun f => match f with
      | .nx => whileN t b n
      | .ct => whileN t b n
      | .bk => ret .nx
      | .rt d => ret (.rt d)
    else ret .nx
/-- more turns than any loop takes -/
def turns : Nat := 1000000
def sWhile (t : M Bool) (b : M Fl) : M Fl := whileN t b turns

/-! ### comprehensions: the names of their own are empty again behind them; what they raise is not carried -/
def wipeS : List Nat → List (Option Sl) → List (Option Sl)
  | [], σ => σ
  | v :: vs, σ => (wipeS vs σ).set v none
/-- the slots vs as they were in old -/
def unwipe (old : List (Option Sl)) : List Nat → List (Option Sl) → List (Option Sl)
  | [], σ => σ
  | v :: vs, σ => (unwipe old vs σ).set v ((old[v]?).getD none)
def noOwn (vs : List Nat) (σ : List (Option Sl)) : Bool := vs.all fun i => match σ[i]? with
  | some (some (.l _)) => false
  | _ => true
/-- one turn: nothing or one item -/
def lc1 (g : Tg) (t : M Bool) (e : M D) (vs : List Nat) (x : D) : M (List D) := fun s => match bnd (cl (g x)) (fun _ => bnd t fun z => if z then bnd e fun y => ret [y] else ret []) s with
  | .ok a s' => .ok a { s' with σ := wipeS vs s'.σ }
  | _ => .no
def lcL (g : Tg) (t : M Bool) (e : M D) (vs : List Nat) : List D → M (List D)
  | [] => ret []
  | x :: xs => bnd (lc1 g t e vs x) fun y => bnd (lcL g t e vs xs) fun ys => ret (y ++ ys)
def lcA (g : Tg) (t : M Bool) (e : M D) (vs : List Nat) (xs : List D) : M (List D) := fun s => if noOwn vs s.σ then
    match lcL g t e vs xs { s with σ := wipeS vs s.σ } with
    | .ok ys s' => .ok ys { s' with σ := unwipe s.σ vs s'.σ }
    | _ => .no
  else .no
def mLc (it : M (List D)) (g : Tg) (t : M Bool) (e : M D) (vs : List Nat) : M (List D) := bnd it fun xs => lcA g t e vs xs
def tTrue : M Bool := ret true
/-- a new list as a value -/
def mF (m : M (List D)) : M D := bnd m fun xs => ret (.lst xs)

/-! ### a def's body -/
def start (n : Nat) (ds : List D) : List (Option Sl) := ds.map (fun d => some (.d d)) ++ List.replicate (n - ds.length) none
def fnOf (n k : Nat) (b : M Fl) : Fn := fun xs ds => if xs.length = k then
    match b ⟨start n xs, ds⟩ with
    | .ok .nx s => .ok .non s.ds
    | .ok (.rt d) s => .ok d s.ds
    | .ok _ _ => .no
    | .er x s => .er x s.ds
    | .no => .no
  else .no
end Lw

set_option Elab.async false
set_option linter.all false
set_option maxRecDepth 100000
set_option maxHeartbeats 4000000
/-! Lw: how the mirror's values stand in the abstract heap, and what a mirror computation says as a reading of HandS. -/
namespace Lw
open PySem PySem.Spec PyProof.Rows L2

/-! ### heaps -/
def Ext (L H : Hp) : Prop := ∀ a o, L a = some o → H a = some o
theorem Ext.refl (H : Hp) : Ext H H := fun _ _ h => h
theorem Ext.trans {A B C : Hp} (x : Ext A B) (y : Ext B C) : Ext A C := fun a o h => y a o (x a o h)
theorem Ext.upd {A B : Hp} {p : Addr} {o : HO} (x : Ext A B) (h : B p = none) : Ext A (upd B p o) := fun a u e => by
  rw [upd_ne (ne_of_none (x a u e) h)]
  exact x a u e
theorem Ext.both {A B : Hp} {p : Addr} {o : HO} (x : Ext A B) : Ext (L2.upd A p o) (L2.upd B p o) := fun a u e => by
  by_cases h : a = p
  · subst h
    rw [upd_same] at e
    rw [upd_same]
    exact e
  · rw [upd_ne h] at e
    rw [upd_ne h]
    exact x a u e
theorem Ext.none {A B : Hp} {p : Addr} (x : Ext A B) (h : B p = none) : A p = none := by
  cases e : A p with
  | none => rfl
  | some o =>
    rw [x p o e] at h
    cases h
theorem Ext.sqL {K : PySem.W.Frag} {A B : Hp} {a : Addr} {xs : List V} (x : Ext A B) (h : SqL K A a xs) : SqL K B a xs := by
  rcases h with (h | ⟨o, h⟩) | h
  · exact .inl (.inl (x _ _ h))
  · exact .inl (.inr ⟨o, x _ _ h⟩)
  · exact .inr h
theorem Ext.sqT {K : PySem.W.Frag} {A B : Hp} {a : Addr} {xs : List V} (x : Ext A B) (h : SqT K A a xs) : SqT K B a xs := by
  rcases h with (h | ⟨o, h⟩) | h
  · exact .inl (.inl (x _ _ h))
  · exact .inl (.inr ⟨o, x _ _ h⟩)
  · exact .inr h

/-- the draw state's dict, its list of cells, its list of great ones -/
abbrev Wm := Option (Addr × Addr × Addr)
def wmL : Wm → List Addr
  | none => []
  | some (a, b, c) => [a, b, c]
/-- where values stand: never written again; and the draw state -/
structure Lh where
  L : Hp
  wm : Wm
  cl : List Addr
/-- what may be written: the draw state, the cells -/
def mtL (l : Lh) : List Addr := wmL l.wm ++ l.cl
/-- it has grown -/
def Gr (l l' : Lh) : Prop := Ext l.L l'.L ∧ (l.wm = none ∨ l'.wm = l.wm) ∧ ∃ m, l'.cl = l.cl ++ m
theorem Gr.refl (l : Lh) : Gr l l := ⟨Ext.refl _, .inr rfl, [], by simp⟩
theorem Gr.trans {a b c : Lh} (x : Gr a b) (y : Gr b c) : Gr a c := ⟨x.1.trans y.1, by
  rcases x.2.1 with h | h
  · exact .inl h
  · rcases y.2.1 with h' | h'
    · exact .inl (h ▸ h')
    · exact .inr (h'.trans h), by
  obtain ⟨m, e⟩ := x.2.2
  obtain ⟨m', e'⟩ := y.2.2
  exact ⟨m ++ m', by rw [e', e, List.append_assoc]⟩⟩
theorem Gr.at_ {l l' : Lh} (g : Gr l l') {k : Nat} {a : Addr} (h : l.cl[k]? = some a) : l'.cl[k]? = some a := by
  obtain ⟨m, e⟩ := g.2.2
  rw [e, List.getElem?_append_left (List.getElem?_eq_some_iff.mp h).1]
  exact h

/-- the field of an exception class -/
def fldOf : String → Option String
  | "BadSize" => some "value"
  | "BadLetters" => some "place"
  | "BadIndex" => some "value"
  | "BadNumber" => some "value"
  | "BadDeed" => some "place"
  | "BadTable" => some "row"
  | "BadMove" => some "place"
  | "BadShape" => some "value"
  | "BadRow" => some "place"
  | "BadCounts" => some "value"
  | "BadText" => some "place"
  | "Stuck" => some "place"
  | "TooGreat" => some "most"
  | _ => none
/-- the class of a name -/
abbrev cAd (K : PySem.W.Frag) (c : String) : Addr := He.ga K (Str.ofString c)
/-- an exception that is held as a value, at e: its class, its own dict -/
def ExcO (e C : Addr) (d : Option Addr) : HO := .ext fun h => ∃ oe vs, h.get? e = some oe ∧ oe.cls = .ref C ∧ oe.dict = d ∧ oe.data = .fields vs

/-- a tuple whose object is known: it has no dict -/
def SqN (K : PySem.W.Frag) (H : Hp) (a : Addr) (xs : List V) : Prop :=
  (∃ o : Obj, H a = some (.frz o (.tup xs)) ∧ o.dict = none) ∨
    ∃ (o : Obj) (its : Array Value) (n : Nat), K.lookup a = some o ∧ o.cls = .type "tuple" ∧ o.dict = none ∧ o.data = .seq its n ∧ its.size ≤ sizeLine ∧ Vals xs its.toList
theorem SqN.sqT {K : PySem.W.Frag} {H : Hp} {a : Addr} {xs : List V} (h : SqN K H a xs) : SqT K H a xs := by
  rcases h with ⟨o, h, _⟩ | ⟨o, its, n, h1, h2, _, h3, h4, h5⟩
  · exact .inl (.inr ⟨o, h⟩)
  · exact .inr ⟨o, its, n, h1, h2, h3, h4, h5⟩
theorem SqN.of {K : PySem.W.Frag} {H : Hp} {a : Addr} {xs : List V} {o : Obj} (h : H a = some (.frz o (.tup xs))) (hd : o.dict = none) : SqN K H a xs := .inl ⟨o, h, hd⟩
theorem Ext.sqN {K : PySem.W.Frag} {A B : Hp} {a : Addr} {xs : List V} (x : Ext A B) (h : SqN K A a xs) : SqN K B a xs := by
  rcases h with ⟨o, h, hd⟩ | h
  · exact .inl ⟨o, x _ _ h, hd⟩
  · exact .inr h

mutual
inductive Dt (K : PySem.W.Frag) (l : Lh) : V → D → Prop
  | non : Dt K l .non .non
  | bl (b : Bool) : Dt K l (.bl b) (.bl b)
  | int (i : Int) : Dt K l (.int i) (.int i)
  | str (x : Str) : Dt K l (.str x) (.str x)
  | lst {a : Addr} {xs : List V} {ds : List D} : l.L a = some (.lst xs) → DtAll K l xs ds → Dt K l (.ref a) (.lst ds)
  | tup {a : Addr} {xs : List V} {ds : List D} : SqN K l.L a xs → DtAll K l xs ds → Dt K l (.ref a) (.tup ds)
  | pr {a : Addr} {xs : List V} {ds : List D} : SqT K l.L a xs → DtAll K l xs ds → Dt K l (.ref a) (.pr ds)
  | dct {a : Addr} {kvs : List (Key × V)} {vs : List V} {ks ds : List D} : l.L a = some (.dK kvs) → vs = kvs.map (·.2) → DtAll K l (kvs.map fun kv => kV kv.1) ks → DtAll K l vs ds → Dt K l (.ref a) (.dct (ks.zip ds))
  | obj {a dx : Addr} {c : String} {vs : List V} {ds : List D} : l.L a = some (SlX.SlO a (cAd K c) dx (vs.map some)) → l.L dx = some (.xd []) → DtAll K l vs ds → Dt K l (.ref a) (.obj c ds)
  | exc0 {a : Addr} {c : String} : l.L a = some (ExcO a (cAd K c) none) → Dt K l (.ref a) (.exc c [])
  | exc1 {a dx : Addr} {c f : String} {v : V} {d : D} : fldOf c = some f → l.L a = some (ExcO a (cAd K c) (some dx)) → l.L dx = some (.xd [(Str.ofString f, v)]) → Dt K l v d → Dt K l (.ref a) (.exc c [d])
  | dm {a b g : Addr} : l.wm = some (a, b, g) → Dt K l (.ref a) .dm
  | scr {a : Addr} {ns : List Int} : SqL K l.L a (ns.map V.int) → Dt K l (.ref a) (.scr ns)
  | cel {a : Addr} {k : Nat} : l.cl[k]? = some a → Dt K l (.ref a) (.cel k)
inductive DtAll (K : PySem.W.Frag) (l : Lh) : List V → List D → Prop
  | nil : DtAll K l [] []
  | cons {v : V} {vs : List V} {d : D} {ds : List D} : Dt K l v d → DtAll K l vs ds → DtAll K l (v :: vs) (d :: ds)
end
mutual
theorem Dt.grow {K : PySem.W.Frag} {l l' : Lh} (g : Gr l l') : ∀ {v : V} {d : D}, Dt K l v d → Dt K l' v d
  | _, _, .non => .non
  | _, _, .bl b => .bl b
  | _, _, .int i => .int i
  | _, _, .str x => .str x
  | _, _, .lst h r => .lst (g.1 _ _ h) (DtAll.grow g r)
  | _, _, .tup h r => .tup (g.1.sqN h) (DtAll.grow g r)
  | _, _, .pr h r => .pr (g.1.sqT h) (DtAll.grow g r)
  | _, _, .dct h e r r' => .dct (g.1 _ _ h) e (DtAll.grow g r) (DtAll.grow g r')
  | _, _, .obj h1 h2 r => .obj (g.1 _ _ h1) (g.1 _ _ h2) (DtAll.grow g r)
  | _, _, .exc0 h => .exc0 (g.1 _ _ h)
  | _, _, .exc1 h0 h1 h2 r => .exc1 h0 (g.1 _ _ h1) (g.1 _ _ h2) (Dt.grow g r)
  | _, _, .dm h => by
    rcases g.2.1 with z | z
    · rw [z] at h
      cases h
    · exact .dm (z.trans h)
  | _, _, .scr h => .scr (g.1.sqL h)
  | _, _, .cel h => .cel (g.at_ h)
theorem DtAll.grow {K : PySem.W.Frag} {l l' : Lh} (g : Gr l l') : ∀ {vs : List V} {ds : List D}, DtAll K l vs ds → DtAll K l' vs ds
  | _, _, .nil => .nil
  | _, _, .cons h r => .cons (Dt.grow g h) (DtAll.grow g r)
end
section
variable {K : PySem.W.Frag} {l : Lh}
theorem DtAll.length : ∀ {vs : List V} {ds : List D}, DtAll K l vs ds → vs.length = ds.length
  | _, _, .nil => rfl
  | _, _, .cons _ r => by simp [DtAll.length r]
theorem DtAll.get : ∀ {vs : List V} {ds : List D} {i : Nat} {d : D}, DtAll K l vs ds → ds[i]? = some d → ∃ v, vs[i]? = some v ∧ Dt K l v d
  | _, _, _, _, .nil, e => by simp at e
  | _, _, 0, _, .cons r _, e => by simp at e; subst e; exact ⟨_, rfl, r⟩
  | _, _, i + 1, _, .cons _ t, e => by
    obtain ⟨u, h1, h2⟩ := DtAll.get (i := i) t (by simpa using e)
    exact ⟨u, by simpa using h1, h2⟩
theorem DtAll.getV : ∀ {vs : List V} {ds : List D} {i : Nat} {v : V}, DtAll K l vs ds → vs[i]? = some v → ∃ d, ds[i]? = some d ∧ Dt K l v d
  | _, _, _, _, .nil, e => by simp at e
  | _, _, 0, _, .cons r _, e => by simp at e; subst e; exact ⟨_, rfl, r⟩
  | _, _, i + 1, _, .cons _ t, e => by
    obtain ⟨u, h1, h2⟩ := DtAll.getV (i := i) t (by simpa using e)
    exact ⟨u, by simpa using h1, h2⟩
theorem DtAll.append : ∀ {xs ys : List V} {us ws : List D}, DtAll K l xs us → DtAll K l ys ws → DtAll K l (xs ++ ys) (us ++ ws)
  | _, _, _, _, .nil, s => s
  | _, _, _, _, .cons r t, s => .cons r (DtAll.append t s)
theorem DtAll.take : ∀ {xs : List V} {us : List D} (n : Nat), DtAll K l xs us → DtAll K l (xs.take n) (us.take n)
  | _, _, 0, _ => .nil
  | _, _, _ + 1, .nil => .nil
  | _, _, n + 1, .cons r t => .cons r (DtAll.take n t)
theorem DtAll.drop : ∀ {xs : List V} {us : List D} (n : Nat), DtAll K l xs us → DtAll K l (xs.drop n) (us.drop n)
  | _, _, 0, r => r
  | _, _, _ + 1, .nil => .nil
  | _, _, n + 1, .cons _ t => DtAll.drop n t
theorem DtAll.set {x : V} {u : D} (r : Dt K l x u) : ∀ {xs : List V} {us : List D} (i : Nat), DtAll K l xs us → DtAll K l (xs.set i x) (us.set i u)
  | _, _, _, .nil => .nil
  | _, _, 0, .cons _ t => .cons r t
  | _, _, i + 1, .cons q t => .cons q (DtAll.set r i t)
theorem DtAll.reverse : ∀ {xs : List V} {us : List D}, DtAll K l xs us → DtAll K l xs.reverse us.reverse
  | _, _, .nil => .nil
  | _, _, .cons r t => by
    rw [List.reverse_cons, List.reverse_cons]
    exact (DtAll.reverse t).append (.cons r .nil)
theorem DtAll.replicate {x : V} {u : D} (r : Dt K l x u) : ∀ n : Nat, DtAll K l (List.replicate n x) (List.replicate n u)
  | 0 => .nil
  | n + 1 => .cons r (DtAll.replicate r n)
theorem DtAll.ints : ∀ ns : List Int, DtAll K l (ns.map V.int) (ns.map D.int)
  | [] => .nil
  | n :: ns => .cons (.int n) (DtAll.ints ns)
theorem DtAll.intsV : ∀ {vs : List V} {ns : List Int}, DtAll K l vs (ns.map D.int) → vs = ns.map V.int
  | _, [], h => by
    cases h
    rfl
  | _, n :: ns, h => by
    cases h with
    | cons a b =>
      cases a
      rw [DtAll.intsV b]
      rfl
end

/-! ### what is known in a def's body -/
/-- the draw state in the heap -/
def MR : Wm → Hp → Option DSt → Prop
  | none, _, none => True
  | some (ma, ca, ga), H, some st => H ma = some (.dK [(.inr (Str.ofString "cells"), .ref ca), (.inr (Str.ofString "great"), .ref ga), (.inr (Str.ofString "spot"), .int (st.spot : Int))]) ∧
      H ca = some (.lst (st.cells.map V.int)) ∧ H ga = some (.lst (st.great.map V.int)) ∧ ca ≠ ga
  | _, _, _ => False
/-- no code object's table -/
def NoTbl (o : HO) : Prop := ∀ ps, o ≠ .tbl ps
theorem MR.mem {wm : Wm} {H : Hp} {ds : Option DSt} (m : MR wm H ds) : ∀ a ∈ wmL wm, ∃ o, H a = some o ∧ NoTbl o := by
  intro a ha
  match wm, ds, m with
  | none, none, _ => simp [wmL] at ha
  | some (x, y, z), some st, ⟨h1, h2, h3, _⟩ =>
    simp only [wmL, List.mem_cons, List.not_mem_nil, or_false] at ha
    rcases ha with rfl | rfl | rfl
    · exact ⟨_, h1, fun _ z => nomatch z⟩
    · exact ⟨_, h2, fun _ z => nomatch z⟩
    · exact ⟨_, h3, fun _ z => nomatch z⟩
theorem MR.step {wm : Wm} {H H' : Hp} {ds : Option DSt} (m : MR wm H ds) (k : ∀ a ∈ wmL wm, ∀ o, H a = some o → H' a = some o) : MR wm H' ds := by
  match wm, ds, m with
  | none, none, _ => trivial
  | some (x, y, z), some st, ⟨h1, h2, h3, h4⟩ => exact ⟨k _ (by simp [wmL]) _ h1, k _ (by simp [wmL]) _ h2, k _ (by simp [wmL]) _ h3, h4⟩
/-- tables and their code objects stay -/
theorem tabs_step {T : List (Addr × Str)} {H H' : Hp} (t : LamX.Tabs T H) (k : ∀ a o, H a = some o → (∃ ps, o = .tbl ps) ∨ (∃ c q, o = LamX.CodeO c q) → H' a = some o) : LamX.Tabs T H' := fun p hp => by
  obtain ⟨ps, h1, h2, h3⟩ := t p hp
  refine ⟨ps, k _ _ h1 (.inl ⟨ps, rfl⟩), h2, fun pos cv hc => ?_⟩
  obtain ⟨c, e1, e2⟩ := h3 pos cv hc
  exact ⟨c, e1, k _ _ e2 (.inr ⟨c, p.2, rfl⟩)⟩

/-- the cells in the heap -/
def Cells (K : PySem.W.Frag) (l : Lh) (H : Hp) : Option DSt → Prop
  | none => l.cl = []
  | some st => l.cl.length = st.hp.length ∧ l.cl.Nodup ∧ (∀ a ∈ l.cl, a ∉ wmL l.wm) ∧ ∀ (k : Nat) (xs : List D), st.hp[k]? = some xs → ∃ a vs, l.cl[k]? = some a ∧ H a = some (.lst vs) ∧ DtAll K l vs xs
theorem Cells.mem {K : PySem.W.Frag} {l : Lh} {H : Hp} {ds : Option DSt} (h : Cells K l H ds) : ∀ a ∈ l.cl, ∃ vs, H a = some (.lst vs) := fun a ha => by
  match ds, h with
  | none, h =>
    have h : l.cl = [] := h
    rw [h] at ha
    exact absurd ha List.not_mem_nil
  | some st, ⟨h1, _, _, h4⟩ =>
    obtain ⟨k, hk, e⟩ := List.getElem_of_mem ha
    obtain ⟨b, vs, e1, e2, _⟩ := h4 k (st.hp[k]'(by omega)) (by simp)
    rw [List.getElem?_eq_getElem hk, e] at e1
    cases e1
    exact ⟨vs, e2⟩
theorem Cells.step {K : PySem.W.Frag} {l l' : Lh} {H H' : Hp} {ds : Option DSt} (h : Cells K l H ds) (g : Gr l l') (hw : l'.wm = l.wm) (hc : l'.cl = l.cl) (k : ∀ a ∈ l.cl, ∀ o, H a = some o → H' a = some o) : Cells K l' H' ds := by
  match ds, h with
  | none, h =>
    show l'.cl = []
    rw [hc]
    exact h
  | some st, ⟨h1, h2, h3, h4⟩ =>
    refine ⟨by rw [hc]; exact h1, by rw [hc]; exact h2, by rw [hc, hw]; exact h3, fun i xs e => ?_⟩
    obtain ⟨a, vs, e1, e2, e3⟩ := h4 i xs e
    exact ⟨a, vs, by rw [hc]; exact e1, k a (List.mem_of_getElem? e1) _ e2, e3.grow g⟩
theorem Cells.ds {K : PySem.W.Frag} {l : Lh} {H : Hp} {ds ds' : Option DSt} (h : Cells K l H ds) (e : ds.map (·.hp) = ds'.map (·.hp)) : Cells K l H ds' := by
  match ds, ds', h, e with
  | none, none, h, _ => exact h
  | some st, some st', h, e =>
    have e : st.hp = st'.hp := Option.some.inj e
    show _ ∧ _
    rw [← e]
    exact h
/-- from (l, H) to (l', H'): values stay, what was tracked stays but for the draw state, the cells and the tables -/
structure Ret (K : PySem.W.Frag) (T : List (Addr × Str)) (l : Lh) (H : Hp) (l' : Lh) (H' : Hp) (ds' : Option DSt) : Prop where
  gr : Gr l l'
  lh : Ext l'.L H'
  nw : ∀ a o, l'.L a = some o → l.L a = some o ∨ H a = none
  ml : ∀ a ∈ mtL l', l'.L a = none
  nt : ∀ a o, l'.L a = some o → NoTbl o
  fr : ∀ a o, H a = some o → a ∉ mtL l → NoTbl o → H' a = some o
  fd : ∀ a, H' a = none → H a = none
  tb : LamX.Tabs T H'
  wk : l'.wm = l.wm ∨ (l.wm = none ∧ ∀ a ∈ wmL l'.wm, H a = none)
  ck : ∀ a ∈ l'.cl, a ∈ l.cl ∨ H a = none
  mr : MR l'.wm H' ds'
  ce : Cells K l' H' ds'
  sm : ∃ ob, H' sysModules = some (.frz ob (.own sysModules))
theorem Ret.mt {K : PySem.W.Frag} {T : List (Addr × Str)} {l l' : Lh} {H H' : Hp} {ds' : Option DSt} (r : Ret K T l H l' H' ds') : ∀ a ∈ mtL l', ∃ o, H' a = some o ∧ NoTbl o := fun a ha => by
  rcases List.mem_append.mp ha with h | h
  · exact r.mr.mem a h
  · obtain ⟨vs, e⟩ := r.ce.mem a h
    exact ⟨_, e, fun _ z => nomatch z⟩
theorem Ret.self {K : PySem.W.Frag} {T : List (Addr × Str)} {l l' : Lh} {H H' : Hp} {ds' : Option DSt} (r : Ret K T l H l' H' ds') : Ret K T l' H' l' H' ds' :=
  ⟨Gr.refl _, r.lh, fun _ _ h => .inl h, r.ml, r.nt, fun _ _ h _ _ => h, fun _ h => h, r.tb, .inl rfl, fun _ h => .inl h, r.mr, r.ce, r.sm⟩
theorem Ret.wm_in {K : PySem.W.Frag} {T : List (Addr × Str)} {l l' : Lh} {H H' : Hp} {ds' : Option DSt} (r : Ret K T l H l' H' ds') {a : Addr} {o : HO} (h : H a = some o) (n : a ∉ mtL l) : a ∉ mtL l' := fun z => by
  rcases List.mem_append.mp z with z | z
  · rcases r.wk with e | ⟨_, e⟩
    · rw [e] at z
      exact n (List.mem_append_left _ z)
    · rw [e a z] at h
      cases h
  · rcases r.ck a z with e | e
    · exact n (List.mem_append_right _ e)
    · rw [e] at h
      cases h
theorem Ret.trans {K : PySem.W.Frag} {T : List (Addr × Str)} {l l1 l2 : Lh} {H H1 H2 : Hp} {d1 d2 : Option DSt} (r : Ret K T l H l1 H1 d1) (q : Ret K T l1 H1 l2 H2 d2) : Ret K T l H l2 H2 d2 where
  gr := r.gr.trans q.gr
  lh := q.lh
  nw := fun a o h => by
    rcases q.nw a o h with h | h
    · exact r.nw a o h
    · exact .inr (r.fd a h)
  ml := q.ml
  nt := q.nt
  fr := fun a o h n t => q.fr a o (r.fr a o h n t) (r.wm_in h n) t
  fd := fun a h => r.fd a (q.fd a h)
  tb := q.tb
  wk := by
    rcases r.wk with e | ⟨e, f⟩
    · rcases q.wk with e' | ⟨e', f'⟩
      · exact .inl (e'.trans e)
      · exact .inr ⟨e ▸ e', fun a h => r.fd a (f' a h)⟩
    · rcases q.wk with e' | ⟨_, f'⟩
      · exact .inr ⟨e, by rw [e']; exact f⟩
      · exact .inr ⟨e, fun a h => r.fd a (f' a h)⟩
  ck := fun a h => by
    rcases q.ck a h with e | e
    · exact r.ck a e
    · exact .inr (r.fd a e)
  mr := q.mr
  ce := q.ce
  sm := q.sm
/-- a new object, never to be written, is laid -/
theorem Ret.lay {K : PySem.W.Frag} {T : List (Addr × Str)} {l l' : Lh} {H H' : Hp} {ds' : Option DSt} (r : Ret K T l H l' H' ds') {p : Addr} {o : HO} (hp : H' p = none) (no : NoTbl o) : Ret K T l' H' ⟨upd l'.L p o, l'.wm, l'.cl⟩ (upd H' p o) ds' where
  gr := ⟨(Ext.refl _).upd (r.lh.none hp), .inr rfl, [], by simp⟩
  lh := r.lh.both
  nw := fun a u (e : upd l'.L p o a = some u) => by
    by_cases h : a = p
    · rw [h]
      exact .inr hp
    · rw [upd_ne h] at e
      exact .inl e
  ml := fun a ha => by
    obtain ⟨u, e, _⟩ := r.mt a ha
    show upd l'.L p o a = none
    rw [upd_ne (ne_of_none e hp)]
    exact r.ml a ha
  nt := fun a u (e : upd l'.L p o a = some u) => by
    by_cases h : a = p
    · rw [h, upd_same] at e
      cases e
      exact no
    · rw [upd_ne h] at e
      exact r.nt a u e
  fr := fun a u e _ _ => by
    rw [upd_ne (ne_of_none e hp)]
    exact e
  fd := fun a e => by
    by_cases h : a = p
    · rw [h, upd_same] at e
      cases e
    · rw [upd_ne h] at e
      exact e
  tb := r.tb.ext fun b u e => by
    rw [upd_ne (ne_of_none e hp)]
    exact e
  wk := .inl rfl
  ck := fun _ h => .inl h
  mr := r.mr.step fun a _ u e => by
    rw [upd_ne (ne_of_none e hp)]
    exact e
  ce := r.ce.step (l' := ⟨upd l'.L p o, l'.wm, l'.cl⟩) ⟨(Ext.refl _).upd (r.lh.none hp), .inr rfl, [], by simp⟩ rfl rfl fun a _ u e => by
    rw [upd_ne (ne_of_none e hp)]
    exact e
  sm := by
    obtain ⟨ob, e⟩ := r.sm
    exact ⟨ob, by rw [upd_ne (ne_of_none e hp)]; exact e⟩
/-- a new object that may be written: it is no value -/
theorem Ret.layO {K : PySem.W.Frag} {T : List (Addr × Str)} {l l' : Lh} {H H' : Hp} {ds' : Option DSt} (r : Ret K T l H l' H' ds') {p : Addr} {o : HO} (hp : H' p = none) : Ret K T l' H' l' (upd H' p o) ds' where
  gr := Gr.refl _
  lh := r.lh.upd hp
  nw := fun _ _ h => .inl h
  ml := r.ml
  nt := r.nt
  fr := fun a u e _ _ => by
    rw [upd_ne (ne_of_none e hp)]
    exact e
  fd := fun a e => by
    by_cases h : a = p
    · rw [h, upd_same] at e
      cases e
    · rw [upd_ne h] at e
      exact e
  tb := r.tb.ext fun b u e => by
    rw [upd_ne (ne_of_none e hp)]
    exact e
  wk := .inl rfl
  ck := fun _ h => .inl h
  mr := r.mr.step fun a _ u e => by
    rw [upd_ne (ne_of_none e hp)]
    exact e
  ce := r.ce.step (Gr.refl _) rfl rfl fun a _ u e => by
    rw [upd_ne (ne_of_none e hp)]
    exact e
  sm := by
    obtain ⟨ob, e⟩ := r.sm
    exact ⟨ob, by rw [upd_ne (ne_of_none e hp)]; exact e⟩

/-- what a slot of the kind k holds -/
def FxV (fx : Option V) (wm : Wm) : Nat → V → Prop
  | 0, v => fx = some v
  | 1, v => ∃ a b g, wm = some (a, b, g) ∧ v = .ref b
  | _, v => ∃ a b g, wm = some (a, b, g) ∧ v = .ref g
theorem FxV.grow {fx : Option V} {l l' : Lh} {k : Nat} {v : V} (g : Gr l l') (h : FxV fx l.wm k v) : FxV fx l'.wm k v := by
  have up : ∀ {t}, l.wm = some t → l'.wm = some t := fun {t} e => by
    rcases g.2.1 with z | z
    · rw [z] at e
      cases e
    · rw [z]
      exact e
  match k, h with
  | 0, h => exact h
  | 1, ⟨a, b, d, e, r⟩ => exact ⟨a, b, d, up e, r⟩
  | _ + 2, ⟨a, b, d, e, r⟩ => exact ⟨a, b, d, up e, r⟩
structure Pk where
  T : List (Addr × Str)
  l0 : Lh
  H0 : Hp
  fx : Option V
structure Rep (K : PySem.W.Frag) (c : Pk) (l : Lh) (S : S) (σ : L2.St) (H : Hp) : Prop where
  rt : Ret K c.T c.l0 c.H0 l H S.ds
  ln : σ.length = S.σ.length
  sd : ∀ (i : Nat) x, S.σ[i]? = some (some (.d x)) → ∃ v, σ[i]? = some (some v) ∧ Dt K l v x
  so : ∀ (i : Nat) xs, S.σ[i]? = some (some (.l xs)) → ∃ a vs, σ[i]? = some (some (.ref a)) ∧ H a = some (.lst vs) ∧ DtAll K l vs xs ∧ l.L a = none ∧ c.H0 a = none ∧ a ∉ mtL l
  di : ∀ (i j : Nat) xs ys a, i ≠ j → S.σ[i]? = some (some (.l xs)) → S.σ[j]? = some (some (.l ys)) → σ[i]? = some (some (.ref a)) → σ[j]? = some (some (.ref a)) → False
  sf : ∀ (i k : Nat), S.σ[i]? = some (some (.f k)) → ∃ v, FxV c.fx l.wm k v ∧ σ[i]? = some (some v)
theorem set_f {σ : List (Option Sl)} {i j : Nat} {x : Sl} {k : Nat} (h : x ≠ .f k) (e : (σ.set i (some x))[j]? = some (some (.f k))) : i ≠ j ∧ σ[j]? = some (some (.f k)) := by
  by_cases hj : i = j
  · subst hj
    have hl : i < σ.length := by
      have := (List.getElem?_eq_some_iff.mp e).1
      simpa using this
    rw [List.getElem?_set_self hl] at e
    injection e with e
    injection e with e
    exact absurd e h
  · rw [List.getElem?_set_ne hj] at e
    exact ⟨hj, e⟩
theorem set_fd {σ : List (Option Sl)} {i j : Nat} {x : D} {k : Nat} (e : (σ.set i (some (.d x)))[j]? = some (some (.f k))) : i ≠ j ∧ σ[j]? = some (some (.f k)) := set_f (fun z => by cases z) e
theorem set_fl {σ : List (Option Sl)} {i j : Nat} {xs : List D} {k : Nat} (e : (σ.set i (some (.l xs)))[j]? = some (some (.f k))) : i ≠ j ∧ σ[j]? = some (some (.f k)) := set_f (fun z => by cases z) e

section
variable {K : PySem.W.Frag} {c : Pk} {l l' : Lh} {S : S} {σ : L2.St} {H H' : Hp}
/-- behind what leaves the slots alone -/
theorem Rep.on (r : Rep K c l S σ H) {ds' : Option DSt} (q : Ret K c.T l H l' H' ds') : Rep K c l' { S with ds := ds' } σ H' where
  rt := r.rt.trans q
  ln := r.ln
  sd := fun i x e => by
    obtain ⟨v, h1, h2⟩ := r.sd i x e
    exact ⟨v, h1, h2.grow q.gr⟩
  so := fun i xs e => by
    obtain ⟨a, vs, h1, h2, h3, h4, h5, h6⟩ := r.so i xs e
    refine ⟨a, vs, h1, q.fr a _ h2 h6 (fun _ z => nomatch z), h3.grow q.gr, ?_, h5, q.wm_in h2 h6⟩
    cases e : l'.L a with
    | none => rfl
    | some o =>
      rcases q.nw a o e with z | z
      · rw [h4] at z
        cases z
      · rw [h2] at z
        cases z
  di := r.di
  sf := fun i k e => by
    obtain ⟨v, h1, h2⟩ := r.sf i k e
    exact ⟨v, h1.grow q.gr, h2⟩
theorem Rep.lay (r : Rep K c l S σ H) {p : Addr} {o : HO} (hp : H p = none) (no : NoTbl o) : Rep K c ⟨upd l.L p o, l.wm, l.cl⟩ S σ (upd H p o) ∧ Gr l ⟨upd l.L p o, l.wm, l.cl⟩ :=
  ⟨r.on (r.rt.lay hp no), (r.rt.lay hp no).gr⟩
/-- a slot is set to a value -/
theorem Rep.set (r : Rep K c l S σ H) {i : Nat} {v : V} {x : D} (h : Dt K l v x) : Rep K c l { S with σ := S.σ.set i (some (.d x)) } (σ.set i (some v)) H where
  rt := r.rt
  ln := by simpa using r.ln
  sd := fun j y e => by
    by_cases hj : j = i
    · subst hj
      have hl : j < S.σ.length := by
        have := (List.getElem?_eq_some_iff.mp e).1
        simpa using this
      rw [List.getElem?_set_self hl] at e
      have e1 : x = y := by injection e with e; injection e with e; injection e
      subst e1
      exact ⟨v, List.getElem?_set_self (by rw [r.ln]; exact hl), h⟩
    · rw [List.getElem?_set_ne (Ne.symm hj)] at e ⊢
      exact r.sd j y e
  so := fun j xs e => by
    by_cases hj : j = i
    · subst hj
      have hl : j < S.σ.length := by
        have := (List.getElem?_eq_some_iff.mp e).1
        simpa using this
      rw [List.getElem?_set_self hl] at e
      injection e with e
      injection e with e
      cases e
    · rw [List.getElem?_set_ne (Ne.symm hj)] at e ⊢
      exact r.so j xs e
  di := fun j k xs ys a n e1 e2 e3 e4 => by
    have hj : j ≠ i := fun z => by
      subst z
      have hl : j < S.σ.length := by
        have := (List.getElem?_eq_some_iff.mp e1).1
        simpa using this
      rw [List.getElem?_set_self hl] at e1
      injection e1 with e1
      injection e1 with e1
      cases e1
    have hk : k ≠ i := fun z => by
      subst z
      have hl : k < S.σ.length := by
        have := (List.getElem?_eq_some_iff.mp e2).1
        simpa using this
      rw [List.getElem?_set_self hl] at e2
      injection e2 with e2
      injection e2 with e2
      cases e2
    rw [List.getElem?_set_ne (Ne.symm hj)] at e1 e3
    rw [List.getElem?_set_ne (Ne.symm hk)] at e2 e4
    exact r.di j k xs ys a n e1 e2 e3 e4
  sf := fun j k e => by
    obtain ⟨n, e⟩ := set_fd e
    rw [List.getElem?_set_ne n]
    exact r.sf j k e
/-- a slot is set to a list of its own, new -/
theorem Rep.own (r : Rep K c l S σ H) {i : Nat} {p : Addr} {vs : List V} {xs : List D} (hp : H p = none) (h : DtAll K l vs xs) :
    Rep K c l { S with σ := S.σ.set i (some (.l xs)) } (σ.set i (some (.ref p))) (upd H p (.lst vs)) := by
  have r1 : Rep K c l S σ (upd H p (.lst vs)) := r.on (r.rt.layO hp)
  have pm : p ∉ mtL l := fun z => by
    obtain ⟨u, e, _⟩ := r.rt.mt p z
    rw [hp] at e
    cases e
  have old : ∀ (j : Nat) ys a, S.σ[j]? = some (some (.l ys)) → σ[j]? = some (some (.ref a)) → a ≠ p := fun j ys a e1 e2 z => by
    obtain ⟨b, ws, q1, q2, _⟩ := r.so j ys e1
    rw [e2] at q1
    injection q1 with q1
    injection q1 with q1
    injection q1 with q1
    rw [← q1, z, hp] at q2
    cases q2
  have at_ : ∀ {j : Nat} {ys : List D}, (S.σ.set i (some (.l xs)))[j]? = some (some (.l ys)) → (j = i ∧ j < S.σ.length ∧ ys = xs) ∨ (j ≠ i ∧ S.σ[j]? = some (some (.l ys))) := fun {j ys} e => by
    by_cases hj : j = i
    · subst hj
      have hl : j < S.σ.length := by
        have := (List.getElem?_eq_some_iff.mp e).1
        simpa using this
      rw [List.getElem?_set_self hl] at e
      injection e with e
      injection e with e
      injection e with e
      exact .inl ⟨rfl, hl, e.symm⟩
    · rw [List.getElem?_set_ne (Ne.symm hj)] at e
      exact .inr ⟨hj, e⟩
  refine ⟨r1.rt, by simpa using r.ln, fun j y e => ?_, fun j ys e => ?_, fun j k ys zs a n e1 e2 e3 e4 => ?_, fun j k e => by
    obtain ⟨n, e⟩ := set_fl e
    rw [List.getElem?_set_ne n]
    exact r.sf j k e⟩
  · by_cases hj : j = i
    · subst hj
      have hl : j < S.σ.length := by
        have := (List.getElem?_eq_some_iff.mp e).1
        simpa using this
      rw [List.getElem?_set_self hl] at e
      injection e with e
      injection e with e
      cases e
    · rw [List.getElem?_set_ne (Ne.symm hj)] at e ⊢
      exact r1.sd j y e
  · rcases at_ e with ⟨rfl, hl, rfl⟩ | ⟨hj, e⟩
    · exact ⟨p, vs, List.getElem?_set_self (by rw [r.ln]; exact hl), upd_same, h, r.rt.lh.none hp, r.rt.fd p hp, pm⟩
    · rw [List.getElem?_set_ne (Ne.symm hj)]
      exact r1.so j ys e
  · rcases at_ e1 with ⟨rfl, hl, rfl⟩ | ⟨hj, e1'⟩
    · rcases at_ e2 with ⟨rfl, _, rfl⟩ | ⟨hk, e2'⟩
      · exact n rfl
      · rw [List.getElem?_set_self (by rw [r.ln]; exact hl)] at e3
        rw [List.getElem?_set_ne (Ne.symm hk)] at e4
        injection e3 with e3
        injection e3 with e3
        injection e3 with e3
        exact old k zs a e2' e4 e3.symm
    · rcases at_ e2 with ⟨rfl, hl, rfl⟩ | ⟨hk, e2'⟩
      · rw [List.getElem?_set_self (by rw [r.ln]; exact hl)] at e4
        rw [List.getElem?_set_ne (Ne.symm hj)] at e3
        injection e4 with e4
        injection e4 with e4
        injection e4 with e4
        exact old j ys a e1' e3 e4.symm
      · rw [List.getElem?_set_ne (Ne.symm hj)] at e3
        rw [List.getElem?_set_ne (Ne.symm hk)] at e4
        exact r.di j k ys zs a n e1' e2' e3 e4
/-- a list of its own is written -/
theorem Rep.wr (r : Rep K c l S σ H) {i : Nat} {a : Addr} {vs : List V} {xs ys : List D} (e : S.σ[i]? = some (some (.l xs))) (ea : σ[i]? = some (some (.ref a))) (h : DtAll K l vs ys) :
    Rep K c l { S with σ := S.σ.set i (some (.l ys)) } σ (upd H a (.lst vs)) := by
  obtain ⟨b, ws, q1, q2, q3, q4, q5, q6⟩ := r.so i xs e
  have eb : b = a := by
    rw [ea] at q1
    injection q1 with q1
    injection q1 with q1
    injection q1 with q1
    exact q1.symm
  subst eb
  have hi : i < S.σ.length := (List.getElem?_eq_some_iff.mp e).1
  have nb : ∀ x o, H x = some o → NoTbl o → (∀ ws, o ≠ .lst ws) → upd H b (.lst vs) x = some o := fun x o h1 h2 h3 => by
    by_cases hx : x = b
    · rw [hx, q2] at h1
      cases h1
      exact absurd rfl (h3 ws)
    · rw [upd_ne hx]
      exact h1
  have ext : Ext l.L (upd H b (.lst vs)) := fun x o h1 => by
    by_cases hx : x = b
    · rw [hx, q4] at h1
      cases h1
    · rw [upd_ne hx]
      exact r.rt.lh x o h1
  have rt' : Ret K c.T c.l0 c.H0 l (upd H b (.lst vs)) S.ds := by
    refine ⟨r.rt.gr, ext, r.rt.nw, r.rt.ml, r.rt.nt, fun x o h1 h2 h3 => ?_, fun x h1 => ?_, tabs_step r.rt.tb fun x o h1 h2 => ?_, r.rt.wk, r.rt.ck, r.rt.mr.step fun x hx o h1 => ?_, r.rt.ce.step (Gr.refl _) rfl rfl fun x hx o h1 => ?_, (by obtain ⟨ob, e⟩ := r.rt.sm; exact ⟨ob, nb _ _ e (fun _ z => nomatch z) (fun _ z => nomatch z)⟩)⟩
    · have hx : x ≠ b := fun z => by
        rw [z, q5] at h1
        cases h1
      rw [upd_ne hx]
      exact r.rt.fr x o h1 h2 h3
    · by_cases hx : x = b
      · rw [hx, upd_same] at h1
        cases h1
      · rw [upd_ne hx] at h1
        exact r.rt.fd x h1
    · have hx : x ≠ b := fun z => by
        rw [z, q2] at h1
        injection h1 with h1
        rcases h2 with ⟨ps, h2⟩ | ⟨cc, q, h2⟩
        · rw [← h1] at h2
          cases h2
        · rw [← h1] at h2
          unfold LamX.CodeO at h2
          cases h2
      rw [upd_ne hx]
      exact h1
    · have hx2 : x ≠ b := fun z => q6 (z ▸ List.mem_append_left _ hx)
      rw [upd_ne hx2]
      exact h1
    · have hx2 : x ≠ b := fun z => q6 (z ▸ List.mem_append_right _ hx)
      rw [upd_ne hx2]
      exact h1
  have at_ : ∀ {j : Nat} {zs : List D}, (S.σ.set i (some (.l ys)))[j]? = some (some (.l zs)) → (j = i ∧ zs = ys) ∨ (j ≠ i ∧ S.σ[j]? = some (some (.l zs))) := fun {j zs} e => by
    by_cases hj : j = i
    · subst hj
      rw [List.getElem?_set_self hi] at e
      injection e with e
      injection e with e
      injection e with e
      exact .inl ⟨rfl, e.symm⟩
    · rw [List.getElem?_set_ne (Ne.symm hj)] at e
      exact .inr ⟨hj, e⟩
  have was : ∀ {j : Nat} {zs : List D}, (S.σ.set i (some (.l ys)))[j]? = some (some (.l zs)) → ∃ us, S.σ[j]? = some (some (.l us)) := fun {j zs} e1 => by
    rcases at_ e1 with ⟨rfl, rfl⟩ | ⟨_, e1⟩
    · exact ⟨_, e⟩
    · exact ⟨_, e1⟩
  refine ⟨rt', by simpa using r.ln, fun j y e1 => ?_, fun j zs e1 => ?_, fun j k us zs x n e1 e2 e3 e4 => ?_, fun j k e => r.sf j k (set_fl e).2⟩
  · by_cases hj : j = i
    · subst hj
      rw [List.getElem?_set_self hi] at e1
      injection e1 with e1
      injection e1 with e1
      cases e1
    · rw [List.getElem?_set_ne (Ne.symm hj)] at e1
      exact r.sd j y e1
  · rcases at_ e1 with ⟨rfl, rfl⟩ | ⟨hj, e1⟩
    · exact ⟨b, vs, ea, upd_same, h, q4, q5, q6⟩
    · obtain ⟨b', ws', p1, p2, p3, p4, p5, p6⟩ := r.so j zs e1
      refine ⟨b', ws', p1, ?_, p3, p4, p5, p6⟩
      have hb : b' ≠ b := fun z => r.di j i zs xs b hj e1 e (z ▸ p1) ea
      rw [upd_ne hb]
      exact p2
  · obtain ⟨u1, z1⟩ := was e1
    obtain ⟨u2, z2⟩ := was e2
    exact r.di j k u1 u2 x n z1 z2 e3 e4
/-- a list of its own is given away -/
theorem Rep.give (r : Rep K c l S σ H) {i : Nat} {xs : List D} (e : S.σ[i]? = some (some (.l xs))) :
    ∃ a vs, σ[i]? = some (some (.ref a)) ∧ Dt K ⟨upd l.L a (.lst vs), l.wm, l.cl⟩ (.ref a) (.lst xs) ∧ Gr l ⟨upd l.L a (.lst vs), l.wm, l.cl⟩ ∧ Rep K c ⟨upd l.L a (.lst vs), l.wm, l.cl⟩ { S with σ := S.σ.set i (some (.d (.lst xs))) } σ H := by
  obtain ⟨a, vs, q1, q2, q3, q4, q5, q6⟩ := r.so i xs e
  have hi : i < S.σ.length := (List.getElem?_eq_some_iff.mp e).1
  have g : Gr l ⟨upd l.L a (.lst vs), l.wm, l.cl⟩ := ⟨(Ext.refl _).upd q4, .inr rfl, [], by simp⟩
  have dt : Dt K ⟨upd l.L a (.lst vs), l.wm, l.cl⟩ (.ref a) (.lst xs) := .lst upd_same (q3.grow g)
  refine ⟨a, vs, q1, dt, g, ⟨?_, by simpa using r.ln, fun j y e1 => ?_, fun j zs e1 => ?_, fun j k us zs x n e1 e2 e3 e4 => ?_, fun j k e => r.sf j k (set_fd e).2⟩⟩
  · refine ⟨r.rt.gr.trans g, fun x o (h1 : upd l.L a (.lst vs) x = some o) => ?_, fun x o (h1 : upd l.L a (.lst vs) x = some o) => ?_, fun x hx => ?_, fun x o (h1 : upd l.L a (.lst vs) x = some o) => ?_, r.rt.fr, r.rt.fd, r.rt.tb, r.rt.wk, r.rt.ck, r.rt.mr, r.rt.ce.step g rfl rfl fun _ _ _ h => h, r.rt.sm⟩
    · by_cases hx : x = a
      · rw [hx, upd_same] at h1
        cases h1
        rw [hx]
        exact q2
      · rw [upd_ne hx] at h1
        exact r.rt.lh x o h1
    · by_cases hx : x = a
      · rw [hx]
        exact .inr q5
      · rw [upd_ne hx] at h1
        exact r.rt.nw x o h1
    · show upd l.L a (.lst vs) x = none
      rw [upd_ne (fun (z : x = a) => q6 (z ▸ hx))]
      exact r.rt.ml x hx
    · by_cases hx : x = a
      · rw [hx, upd_same] at h1
        cases h1
        exact fun _ z => nomatch z
      · rw [upd_ne hx] at h1
        exact r.rt.nt x o h1
  · by_cases hj : j = i
    · subst hj
      rw [List.getElem?_set_self hi] at e1
      have e2 : (D.lst xs) = y := by injection e1 with e1; injection e1 with e1; injection e1
      subst e2
      exact ⟨_, q1, dt⟩
    · rw [List.getElem?_set_ne (Ne.symm hj)] at e1
      obtain ⟨v, h1, h2⟩ := r.sd j y e1
      exact ⟨v, h1, h2.grow g⟩
  · have hj : j ≠ i := fun z => by
      subst z
      rw [List.getElem?_set_self hi] at e1
      injection e1 with e1
      injection e1 with e1
      cases e1
    rw [List.getElem?_set_ne (Ne.symm hj)] at e1
    obtain ⟨b', ws', p1, p2, p3, p4, p5, p6⟩ := r.so j zs e1
    refine ⟨b', ws', p1, p2, p3.grow g, ?_, p5, p6⟩
    have hb : b' ≠ a := fun z => r.di j i zs xs a hj e1 e (z ▸ p1) q1
    show upd l.L a (.lst vs) b' = none
    rw [upd_ne hb]
    exact p4
  · have hj : j ≠ i := fun z => by
      subst z
      rw [List.getElem?_set_self hi] at e1
      injection e1 with e1
      injection e1 with e1
      cases e1
    have hk : k ≠ i := fun z => by
      subst z
      rw [List.getElem?_set_self hi] at e2
      injection e2 with e2
      injection e2 with e2
      cases e2
    rw [List.getElem?_set_ne (Ne.symm hj)] at e1
    rw [List.getElem?_set_ne (Ne.symm hk)] at e2
    exact r.di j k us zs x n e1 e2 e3 e4
end
end Lw

set_option Elab.async false
set_option linter.all false
set_option maxRecDepth 100000
set_option maxHeartbeats 4000000
/-! Lw: mirror computations as readings; the rules of names, operations, calls and statements. -/
namespace Lw
open PySem PySem.Spec PyProof.Rows L2

/-- an exception in the air -/
def Fly (K : PySem.W.Frag) (l : Lh) (cls : Value) (dd : Option Addr) : D → Prop
  | .exc c [] => cls = .ref (cAd K c) ∧ dd = none
  | .exc c [x] => ∃ f dx v, fldOf c = some f ∧ cls = .ref (cAd K c) ∧ dd = some dx ∧ l.L dx = some (.xd [(Str.ofString f, v)]) ∧ Dt K l v x
  | _ => False
section
variable (K : PySem.W.Frag) (c : Pk) (W : WX)
/-- what is wanted of a result: R tells how its value stands -/
def Po {α β : Type} (l : Lh) (σ : L2.St) (R : Lh → β → α → Prop) (Q : β → Hp → Prop) : Res α → Prop
  | .ok d S' => ∀ v H' l', Rep K c l' S' σ H' → Gr l l' → R l' v d → Q v H'
  | .er x S' => ∀ cls dd H' l', Rep K c l' S' σ H' → Gr l l' → Fly K l' cls dd x → W cls dd σ H'
  | .no => False
def liftG {α β : Type} (R : L2.St → Lh → β → α → Prop) (m : M α) : L2.St → Hp → (β → Hp → Prop) → Prop := fun σ H Q => ∃ l S, Rep K c l S σ H ∧ Po K c W l σ (R σ) Q (m S)
def liftE (m : M D) : TE := liftG K c W (fun _ => Dt K) m
def liftA (n : Nat) (m : M (List D)) : TA := liftG K c W (fun _ l vs ds => DtAll K l vs ds ∧ ds.length = n) m
def liftT (m : M Bool) : TT := liftG K c W (fun _ _ b b' => b = b') m
/-- how an operand's value stands -/
def RO (σ : L2.St) : Opd → Lh → V → D → Prop
  | .v _, l, v, d => Dt K l v d
  | .n i, _, v, _ => σ[i]? = some (some v)
def liftO (o : Opd) : TE := liftG K c W (fun σ => RO K σ o) o.ev
def ROs (σ : L2.St) : List Opd → Lh → List V → List D → Prop
  | [], _, vs, ds => vs = [] ∧ ds = []
  | o :: os, l, vs, ds => ∃ v vs' d ds', vs = v :: vs' ∧ ds = d :: ds' ∧ RO K σ o l v d ∧ ROs σ os l vs' ds'
def liftOs (os : List Opd) : TA := liftG K c W (fun σ => ROs K σ os) (evs os)
def PoS (l : Lh) (D : Ends) : Res Fl → Prop
  | .ok f S' => ∀ σ' H' l', Rep K c l' S' σ' H' → Gr l l' → match f with
    | .nx => D.nx σ' H'
    | .bk => D.bk σ' H'
    | .ct => D.ct σ' H'
    | .rt d => ∀ v, Dt K l' v d → D.rt v H'
  | .er x S' => ∀ cls dd σ' H' l', Rep K c l' S' σ' H' → Gr l l' → Fly K l' cls dd x → W cls dd σ' H'
  | .no => False
def liftS (m : M Fl) : TS := fun D σ H => ∃ l S, Rep K c l S σ H ∧ PoS K c W l D (m S)
/-- slots are as they were but for some -/
def Off (vs : Nat → Prop) (σ σ' : L2.St) : Prop := σ'.length = σ.length ∧ ∀ j, ¬ vs j → σ'[j]? = σ[j]?
def liftTg (vs : Nat → Prop) (g : Tg) : TG := fun x σ H Q => ∃ l S d, Rep K c l S σ H ∧ Dt K l x d ∧ match g d S with
  | .ok _ S' => ∀ σ' H' l', Rep K c l' S' σ' H' → Gr l l' → Off vs σ σ' → Q σ' H'
  | _ => False
def liftTgs (vs : Nat → Prop) (gs : List Tg) : TGs := fun xs σ H Q => ∃ l S ds, Rep K c l S σ H ∧ DtAll K l xs ds ∧ match gAll gs ds S with
  | .ok _ S' => ∀ σ' H' l', Rep K c l' S' σ' H' → Gr l l' → Off vs σ σ' → Q σ' H'
  | _ => False
/-- what is walked: the items -/
def Wk (l : Lh) (J : It) (xs : List D) : Prop := xs.length ≤ sizeLine ∧ ∃ G Y, Walk J xs.length G Y ∧ (∀ H, Ext l.L H → G H) ∧ ∀ i H x H1 l1, i < xs.length → Gr l l1 → Ext l1.L H → Y i H x H1 → ∃ d, xs[i]? = some d ∧
  ((H1 = H ∧ Dt K l1 x d) ∨ ∃ T vs ds, x = .ref T ∧ H T = none ∧ H1 = upd H T (.tup vs) ∧ d = .pr ds ∧ DtAll K l1 vs ds)
def liftI (m : M (List D)) : TI := fun σ H R => ∃ l S, Rep K c l S σ H ∧ match m S with
  | .ok xs S' => ∀ J H' l', Rep K c l' S' σ H' → Gr l l' → Wk K l' J xs → R J H'
  | .er x S' => ∀ cls dd H' l', Rep K c l' S' σ H' → Gr l l' → Fly K l' cls dd x → W cls dd σ H'
  | .no => False
end

section
variable {X : Cx} {c : Pk} {W : WX}
abbrev LE (X : Cx) (c : Pk) (W : WX) (e : Expr) (m : M D) : Prop := PE X e (liftE X.K c W m)
abbrev LO (X : Cx) (c : Pk) (W : WX) (e : Expr) (o : Opd) : Prop := PE X e (liftO X.K c W o)
abbrev LT (X : Cx) (c : Pk) (W : WX) (e : Expr) (m : M Bool) : Prop := PT X e (liftT X.K c W m)
abbrev LA (X : Cx) (c : Pk) (W : WX) (es : List Expr) (m : M (List D)) : Prop := PA X es (liftA X.K c W es.length m)
abbrev LOs (X : Cx) (c : Pk) (W : WX) (es : List Expr) (os : List Opd) : Prop := PA X es (liftOs X.K c W os)
abbrev LS (X : Cx) (c : Pk) (W : WX) (st : Stmt) (m : M Fl) : Prop := PS X st (liftS X.K c W m)
abbrev LB (X : Cx) (c : Pk) (W : WX) (st : List Stmt) (m : M Fl) : Prop := PSs X st (liftS X.K c W m)
abbrev LG (X : Cx) (c : Pk) (vs : Nat → Prop) (tg : Expr) (g : Tg) : Prop := PG X tg (liftTg X.K c vs g)
abbrev anyS : Nat → Prop := fun _ => True
abbrev LI (X : Cx) (c : Pk) (W : WX) (tg it : Expr) (m : M (List D)) : Prop := PI X tg it (liftI X.K c W m)

theorem Off.refl (vs : Nat → Prop) (σ : L2.St) : Off vs σ σ := ⟨rfl, fun _ _ => rfl⟩
theorem Off.trans {vs : Nat → Prop} {a b d : L2.St} (x : Off vs a b) (y : Off vs b d) : Off vs a d := ⟨y.1.trans x.1, fun j h => (y.2 j h).trans (x.2 j h)⟩
theorem Off.set {vs : Nat → Prop} {σ : L2.St} {i : Nat} {v : Option V} (h : vs i) : Off vs σ (σ.set i v) := ⟨by simp, fun j hj => List.getElem?_set_ne (fun (e : i = j) => hj (e ▸ h))⟩
theorem PE.imp {X : Cx} {e : Expr} {t t' : TE} (h : PE X e t) (i : ∀ σ H Q, t' σ H Q → t σ H Q) : PE X e t' := ⟨fun pins s σ H Q I q => h.run pins s σ H Q I (i σ H Q q)⟩
theorem PT.imp {X : Cx} {e : Expr} {t t' : TT} (h : PT X e t) (i : ∀ σ H Q, t' σ H Q → t σ H Q) : PT X e t' := ⟨fun pins s σ H Q I q => h.run pins s σ H Q I (i σ H Q q)⟩
theorem PW.imp {X : Cx} {e : Expr} {t t' : TT} (h : PW X e t) (i : ∀ σ H Q, t' σ H Q → t σ H Q) : PW X e t' := ⟨fun wh pins s σ H Q I q => h.run wh pins s σ H Q I (i σ H Q q)⟩
theorem PA.imp {X : Cx} {e : List Expr} {t t' : TA} (h : PA X e t) (i : ∀ σ H Q, t' σ H Q → t σ H Q) : PA X e t' := ⟨fun pos pins s σ H Q I q => h.run pos pins s σ H Q I (i σ H Q q)⟩
theorem PS.imp {X : Cx} {e : Stmt} {t t' : TS} (h : PS X e t) (i : ∀ D σ H, t' D σ H → t D σ H) : PS X e t' := ⟨fun pins s σ H D I q => h.run pins s σ H D I (i D σ H q)⟩
theorem PSs.imp {X : Cx} {e : List Stmt} {t t' : TS} (h : PSs X e t) (i : ∀ D σ H, t' D σ H → t D σ H) : PSs X e t' := ⟨fun pins s σ H D I q => h.run pins s σ H D I (i D σ H q)⟩
end

/-! ### results -/
section
variable {K : PySem.W.Frag} {c : Pk} {W : WX} {α β : Type}
theorem Po.grow {l l' : Lh} {σ : L2.St} {R : Lh → β → α → Prop} {Q : β → Hp → Prop} {r : Res α} (g : Gr l l') (h : Po K c W l σ R Q r) : Po K c W l' σ R Q r := by
  cases r with
  | ok d S' => exact fun v H' l2 rp g2 q => h v H' l2 rp (g.trans g2) q
  | er x S' => exact fun cls dd H' l2 rp g2 q => h cls dd H' l2 rp (g.trans g2) q
  | no => exact h
theorem PoS.grow {l l' : Lh} {D : Ends} {r : Res Fl} (g : Gr l l') (h : PoS K c W l D r) : PoS K c W l' D r := by
  cases r with
  | ok d S' => exact fun σ' H' l2 rp g2 => h σ' H' l2 rp (g.trans g2)
  | er x S' => exact fun cls dd σ' H' l2 rp g2 q => h cls dd σ' H' l2 rp (g.trans g2) q
  | no => exact h
/-- a computation and then another: from what is wanted of the whole to what is wanted of the first -/
theorem Po.bind {γ δ : Type} {l : Lh} {σ : L2.St} {R : Lh → β → α → Prop} {R' : Lh → δ → γ → Prop} {Q : β → Hp → Prop} {Q' : δ → Hp → Prop} {m : M α} {k : α → M γ} {s : S} (h : Po K c W l σ R' Q' (bnd m k s))
    (step : ∀ d S' v H' l', m s = .ok d S' → Rep K c l' S' σ H' → Gr l l' → R l' v d → Po K c W l' σ R' Q' (k d S') → Q v H') : Po K c W l σ R Q (m s) := by
  cases e : m s with
  | ok d S' =>
    rw [bnd_ok e] at h
    exact fun v H' l' rp g r => step d S' v H' l' e rp g r (h.grow g)
  | er x S' =>
    rw [bnd_er e] at h
    exact h
  | no =>
    rw [bnd_no e] at h
    exact h
theorem Po.bindS {l : Lh} {σ : L2.St} {D : Ends} {R : Lh → β → α → Prop} {Q : β → Hp → Prop} {m : M α} {k : α → M Fl} {s : S} (h : PoS K c W l D (bnd m k s))
    (step : ∀ d S' v H' l', m s = .ok d S' → Rep K c l' S' σ H' → Gr l l' → R l' v d → PoS K c W l' D (k d S') → Q v H') : Po K c W l σ R Q (m s) := by
  cases e : m s with
  | ok d S' =>
    rw [bnd_ok e] at h
    exact fun v H' l' rp g r => step d S' v H' l' e rp g r (h.grow g)
  | er x S' =>
    rw [bnd_er e] at h
    exact fun cls dd H' l' rp g f => h cls dd σ H' l' rp g f
  | no =>
    rw [bnd_no e] at h
    exact h
/-- what an operation may hand back: a value that stands; or a new object -/
def Give (K : PySem.W.Frag) (l : Lh) (H : Hp) (d : D) (Q : VK) : Prop := (∀ v, Dt K l v d → Q v H) ∧ ∀ p o, H p = none → NoTbl o → Dt K ⟨upd l.L p o, l.wm, l.cl⟩ (.ref p) d → Q (.ref p) (upd H p o)
theorem Po.give {l : Lh} {σ : L2.St} {Q : VK} {S : S} {H : Hp} {d : D} (rp : Rep K c l S σ H) (h : Po K c W l σ (Dt K) Q (.ok d S)) : Give K l H d Q :=
  ⟨fun v q => h v H l rp (Gr.refl _) q, fun p o hp no q => h _ _ _ (rp.lay hp no).1 (rp.lay hp no).2 q⟩
/-- a value, or a list that a slot owns -/
def Rv (K : PySem.W.Frag) (l : Lh) (H : Hp) (v : V) (d : D) : Prop := Dt K l v d ∨ ∃ a vs ds, v = .ref a ∧ d = .lst ds ∧ H a = some (.lst vs) ∧ DtAll K l vs ds
theorem Rv.lst {l : Lh} {H : Hp} {v : V} {ds : List D} (x : Ext l.L H) (h : Rv K l H v (.lst ds)) : ∃ a vs, v = .ref a ∧ H a = some (.lst vs) ∧ DtAll K l vs ds := by
  rcases h with h | ⟨a, vs, ds', rfl, e, h1, h2⟩
  · cases h with
    | lst h1 h2 => exact ⟨_, _, rfl, x _ _ h1, h2⟩
  · cases e
    exact ⟨a, vs, rfl, h1, h2⟩
theorem Rv.tup {l : Lh} {H : Hp} {v : V} {ds : List D} (x : Ext l.L H) (h : Rv K l H v (.tup ds)) : ∃ a vs, v = .ref a ∧ SqT K H a vs ∧ DtAll K l vs ds := by
  rcases h with h | ⟨a, vs, ds', rfl, e, h1, h2⟩
  · cases h with
    | tup h1 h2 => exact ⟨_, _, rfl, x.sqT h1.sqT, h2⟩
  · cases e
theorem Rv.int {l : Lh} {H : Hp} {v : V} {i : Int} (h : Rv K l H v (.int i)) : v = .int i := by
  rcases h with h | ⟨a, vs, ds', rfl, e, h1, h2⟩
  · cases h
    rfl
  · cases e
theorem Rv.bl {l : Lh} {H : Hp} {v : V} {i : Bool} (h : Rv K l H v (.bl i)) : v = .bl i := by
  rcases h with h | ⟨a, vs, ds', rfl, e, h1, h2⟩
  · cases h
    rfl
  · cases e
theorem Rv.str {l : Lh} {H : Hp} {v : V} {i : Str} (h : Rv K l H v (.str i)) : v = .str i := by
  rcases h with h | ⟨a, vs, ds', rfl, e, h1, h2⟩
  · cases h
    rfl
  · cases e
theorem Rv.non {l : Lh} {H : Hp} {v : V} (h : Rv K l H v .non) : v = .non := by
  rcases h with h | ⟨a, vs, ds', rfl, e, h1, h2⟩
  · cases h
    rfl
  · cases e
/-- an operand is looked at -/
theorem rd_ok {o : Opd} {x d : D} {S S' : Lw.S} {σ : L2.St} {l l' : Lh} {H : Hp} {v : V} (rp : Rep K c l' S σ H) (g : Gr l l') (r : RO K σ o l v x) (e : o.rd x S = .ok d S') : S' = S ∧ Rv K l' H v d := by
  cases o with
  | v m =>
    cases e
    exact ⟨rfl, .inl (Dt.grow g r)⟩
  | n i =>
    have e : rdS i S = .ok d S' := e
    have r : σ[i]? = some (some v) := r
    unfold rdS at e
    split at e
    · rename_i y hy
      cases e
      obtain ⟨v', h1, h2⟩ := rp.sd i _ hy
      rw [r] at h1
      cases h1
      exact ⟨rfl, .inl h2⟩
    · rename_i xs hy
      cases e
      obtain ⟨a, vs, h1, h2, h3, _⟩ := rp.so i _ hy
      rw [r] at h1
      cases h1
      exact ⟨rfl, .inr ⟨a, vs, xs, rfl, rfl, h2, h3⟩⟩
    · cases e
theorem rd_er {o : Opd} {x y : D} {S S' : Lw.S} (e : o.rd x S = .er y S') : False := by
  cases o with
  | v m => cases e
  | n i =>
    have e : rdS i S = .er y S' := e
    unfold rdS at e
    split at e <;> cases e
theorem RO.grow {o : Opd} {x : D} {σ : L2.St} {l l' : Lh} {v : V} (g : Gr l l') (r : RO K σ o l v x) : RO K σ o l' v x := by
  cases o with
  | v m => exact Dt.grow g r
  | n i => exact r
theorem ROs.grow {σ : L2.St} {l l' : Lh} (g : Gr l l') : ∀ {os : List Opd} {vs : List V} {ds : List D}, ROs K σ os l vs ds → ROs K σ os l' vs ds
  | [], _, _, h => h
  | o :: os, _, _, ⟨v, vs', d, ds', e1, e2, h1, h2⟩ => ⟨v, vs', d, ds', e1, e2, h1.grow g, ROs.grow g h2⟩
/-- what an operand's look asks: by cases -/
theorem Po.rd {γ δ : Type} {o : Opd} {x : D} {l l' : Lh} {σ : L2.St} {R' : Lh → δ → γ → Prop} {Q' : δ → Hp → Prop} {k : D → M γ} {S : S} {H : Hp} {v : V} (rp : Rep K c l' S σ H) (g : Gr l l') (r : RO K σ o l v x) (h : Po K c W l' σ R' Q' (bnd (o.rd x) k S)) :
    ∃ d, Rv K l' H v d ∧ Po K c W l' σ R' Q' (k d S) := by
  cases e : o.rd x S with
  | ok d S' =>
    obtain ⟨rfl, q⟩ := rd_ok rp g r e
    rw [bnd_ok e] at h
    exact ⟨d, q, h⟩
  | er y S' => exact (rd_er e).elim
  | no =>
    rw [bnd_no e] at h
    exact h.elim
theorem Po.opt {γ δ : Type} {l : Lh} {σ : L2.St} {R' : Lh → δ → γ → Prop} {Q' : δ → Hp → Prop} {o : Option γ} {S : S} (h : Po K c W l σ R' Q' (opt o S)) : ∃ d, o = some d ∧ Po K c W l σ R' Q' (.ok d S) := by
  cases o with
  | none => exact h.elim
  | some d => exact ⟨d, rfl, h⟩
inductive RvAll (K : PySem.W.Frag) (l : Lh) (H : Hp) : List V → List D → Prop
  | nil : RvAll K l H [] []
  | cons {v : V} {vs : List V} {d : D} {ds : List D} : Rv K l H v d → RvAll K l H vs ds → RvAll K l H (v :: vs) (d :: ds)
theorem Po.rds {γ δ : Type} {l l' : Lh} {σ : L2.St} {R' : Lh → δ → γ → Prop} {Q' : δ → Hp → Prop} {S : S} {H : Hp} (rp : Rep K c l' S σ H) (g : Gr l l') : ∀ {os : List Opd} {xs : List D} {vs : List V} {k : List D → M γ}, ROs K σ os l vs xs → Po K c W l' σ R' Q' (bnd (rds os xs) k S) →
    ∃ ds, RvAll K l' H vs ds ∧ Po K c W l' σ R' Q' (k ds S)
  | [], _, _, k, ⟨rfl, rfl⟩, h => ⟨[], .nil, h⟩
  | o :: os, _, _, k, ⟨v, vs', d, ds', rfl, rfl, h1, h2⟩, h => by
    have e : bnd (Lw.rds (o :: os) (d :: ds')) k S = bnd (o.rd d) (fun a => bnd (Lw.rds os ds') fun as => k (a :: as)) S := by
      show bnd (bnd (o.rd d) fun a => bnd (Lw.rds os ds') fun as => ret (a :: as)) k S = _
      unfold bnd
      cases o.rd d S with
      | ok a s' =>
        dsimp only
        cases Lw.rds os ds' s' <;> rfl
      | er x s' => rfl
      | no => rfl
    rw [e] at h
    obtain ⟨a, q1, h⟩ := Po.rd rp g h1 h
    obtain ⟨as, q2, h⟩ := Po.rds rp g h2 h
    exact ⟨a :: as, .cons q1 q2, h⟩
end

/-! ### names and constants -/
section
variable {X : Cx} {c : Pk} {W : WX}
theorem le_c {e : Expr} {v : V} {d : D} (h : PE X e (tC v)) (hd : ∀ l, Dt X.K l v d) : LE X c W e (ret d) := PE.imp h fun σ H Q ⟨l, S, rp, po⟩ => po v H l rp (Gr.refl _) (hd l)
theorem le_int {i : Int} {j : Nat} {pos : Pos} : LE X c W (.Constant (.int i) j pos) (ret (.int i)) := le_c pe_int fun _ => .int i
theorem le_str {x : Str} {j : Nat} {pos : Pos} : LE X c W (.Constant (.str x) j pos) (ret (.str x)) := le_c pe_str fun _ => .str x
theorem le_bl {b : Bool} {j : Nat} {pos : Pos} : LE X c W (.Constant (.bool b) j pos) (ret (.bl b)) := le_c pe_bl fun _ => .bl b
theorem le_non {j : Nat} {pos : Pos} : LE X c W (.Constant .none j pos) (ret .non) := le_c pe_non fun _ => .non
/-- a module's whole number -/
theorem le_gint {x : Str} {i : Int} {pos : Pos} (hm : ∃ t, X.mg x = some (.int i t)) (hg : Gl X x := by rfl) (hd : (x == ("__debug__" : Str)) = false := by decide) : LE X c W (.Name x pos) (ret (.int i)) := by
  obtain ⟨t, hm⟩ := hm
  exact le_c (v := .int i) (pe_glob hg hm ⟨t, rfl⟩ hd) fun _ => .int i
theorem le_gstr {x z : Str} {pos : Pos} (hm : ∃ t, X.mg x = some (.str z t)) (hg : Gl X x := by rfl) (hd : (x == ("__debug__" : Str)) = false := by decide) : LE X c W (.Name x pos) (ret (.str z)) := by
  obtain ⟨t, hm⟩ := hm
  exact le_c (v := .str z) (pe_glob hg hm ⟨t, rfl⟩ hd) fun _ => .str z
theorem le_v (i : Nat) {x : Str} {pos : Pos} (hN : X.N[i]? = some x := by rfl) (hv : Vis X.env.scope x := by first | exact Or.inl rfl | exact Or.inr (Or.inl rfl) | exact Or.inr (Or.inr rfl)) (hd : (x == ("__debug__" : Str)) = false := by decide)
    (hcd : (x == ("__classdict__" : Str)) = false := by decide) : LE X c W (.Name x pos) (mV i) := PE.imp (pv i hN hv hd hcd) fun σ H Q ⟨l, S, rp, po⟩ => by
  unfold mV at po
  split at po
  · rename_i y hy
    obtain ⟨v, h1, h2⟩ := rp.sd i y hy
    exact ⟨v, h1, po v H l rp (Gr.refl _) h2⟩
  · exact po.elim
/-- a list of one's own that is given away -/
theorem le_z (i : Nat) {x : Str} {pos : Pos} (hN : X.N[i]? = some x := by rfl) (hv : Vis X.env.scope x := by first | exact Or.inl rfl | exact Or.inr (Or.inl rfl) | exact Or.inr (Or.inr rfl)) (hd : (x == ("__debug__" : Str)) = false := by decide)
    (hcd : (x == ("__classdict__" : Str)) = false := by decide) : LE X c W (.Name x pos) (mZ i) := PE.imp (pv i hN hv hd hcd) fun σ H Q ⟨l, S, rp, po⟩ => by
  unfold mZ at po
  split at po
  · rename_i xs hy
    obtain ⟨a, vs, h1, h2, h3, h4⟩ := rp.give hy
    exact ⟨.ref a, h1, po _ H _ h4 h3 h2⟩
  · exact po.elim
theorem lo_v {e : Expr} {m : M D} (h : LE X c W e m) : LO X c W e (.v m) := h
theorem lo_n (i : Nat) {x : Str} {pos : Pos} (hN : X.N[i]? = some x := by rfl) (hv : Vis X.env.scope x := by first | exact Or.inl rfl | exact Or.inr (Or.inl rfl) | exact Or.inr (Or.inr rfl)) (hd : (x == ("__debug__" : Str)) = false := by decide)
    (hcd : (x == ("__classdict__" : Str)) = false := by decide) : LO X c W (.Name x pos) (.n i) := PE.imp (pv i hN hv hd hcd) fun σ H Q ⟨l, S, rp, po⟩ => by
  unfold Opd.ev at po
  dsimp only at po
  split at po
  · rename_i y hy
    have : ∃ v, σ[i]? = some (some v) := by
      cases y with
      | d x =>
        obtain ⟨v, h1, _⟩ := rp.sd i x hy
        exact ⟨v, h1⟩
      | l xs =>
        obtain ⟨a, _, h1, _⟩ := rp.so i xs hy
        exact ⟨_, h1⟩
      | f k =>
        obtain ⟨v, _, h1⟩ := rp.sf i k hy
        exact ⟨v, h1⟩
    obtain ⟨v, h1⟩ := this
    exact ⟨v, h1, po v H l rp (Gr.refl _) h1⟩
  · exact po.elim

/-! ### arguments -/
theorem la_nil : LA X c W [] aNil := PA.imp pa_nil fun σ H Q ⟨l, S, rp, po⟩ => po [] H l rp (Gr.refl _) ⟨.nil, rfl⟩
theorem la_cons {e : Expr} {es : List Expr} {m : M D} {r : M (List D)} (h : LE X c W e m) (hr : LA X c W es r) (hs : starEach (e :: es) X.env = (false, eval e X.env) :: starEach es X.env := by rfl) : LA X c W (e :: es) (aCons m r) :=
  PA.imp (pa_cons h hr hs) fun σ H Q ⟨l, S, rp, po⟩ => by
    refine ⟨l, S, rp, Po.bind po fun d S1 v H1 l1 _ rp1 g1 q1 po1 => ?_⟩
    refine ⟨l1, S1, rp1, Po.bind po1 fun ds S2 vs H2 l2 _ rp2 g2 q2 po2 => ?_⟩
    exact po2 _ H2 l2 rp2 (Gr.refl _) ⟨.cons (Dt.grow g2 q1) q2.1, by simp [q2.2]⟩
theorem los_nil : LOs X c W [] [] := PA.imp pa_nil fun σ H Q ⟨l, S, rp, po⟩ => po [] H l rp (Gr.refl _) ⟨rfl, rfl⟩
theorem los_cons {e : Expr} {es : List Expr} {o : Opd} {os : List Opd} (h : LO X c W e o) (hr : LOs X c W es os) (hs : starEach (e :: es) X.env = (false, eval e X.env) :: starEach es X.env := by rfl) : LOs X c W (e :: es) (o :: os) :=
  PA.imp (pa_cons h hr hs) fun σ H Q ⟨l, S, rp, po⟩ => by
    refine ⟨l, S, rp, Po.bind (R := RO X.K σ o) po fun d S1 v H1 l1 _ rp1 g1 q1 po1 => ?_⟩
    refine ⟨l1, S1, rp1, Po.bind (R := ROs X.K σ os) po1 fun ds S2 vs H2 l2 _ rp2 g2 q2 po2 => ?_⟩
    exact po2 _ H2 l2 rp2 (Gr.refl _) ⟨_, _, _, _, rfl, rfl, q1.grow g2, q2⟩
/-- a new tuple, known by its object -/
def tTupZ (t : TA) : TE := fun σ H Q => t σ H fun xs H1 => xs.length ≤ sizeLine ∧ ∀ p o, H1 p = none → o.dict = none → Q (.ref p) (upd H1 p (.frz o (.tup xs)))
theorem lay_tup {X : Cx} {pins : List (Addr × Obj)} {σ : L2.St} {H : Hp} {s : Shared} {xs : List V} {its : List Value} (I : Inv X pins σ H s) (r : Vals xs its) (hz : xs.length ≤ sizeLine) : Inv X pins σ (upd H s.heap.objs.size (.frz ⟨.type "tuple", none, .seq its.toArray 0, #[]⟩ (.tup xs))) { s with heap := s.heap.push ⟨.type "tuple", none, .seq its.toArray 0, #[]⟩ } :=
  I.laid (t' := s.toks) (o := .frz ⟨.type "tuple", none, .seq its.toArray 0, #[]⟩ (.tup xs)) (fun b ob q => Heap.get?_push_of_some _ q) (Nat.le_refl _) ⟨Heap.get?_push_size _ rfl, hz, its, r, IsTup.new _ _⟩
theorem pe_tupZ {X : Cx} {es : List Expr} {t : TA} {x1} {pos : Pos} (h : PA X es t) : PE X (.Tuple es x1 pos) (tTupZ t) := by
  refine ⟨fun pins s σ H Q I hq => wpAny_Tuple_spliced (thn (h.run pos pins s σ H _ I hq) fun us s1 ⟨xs, H1, I1, r, z, q⟩ => ⟨by rw [← r.length]; exact z, ?_⟩)⟩
  exact ⟨.ref s1.heap.objs.size, _, lay_tup I1 r z, rfl, q _ _ (I1.hok.fresh (Nat.le_refl _)) rfl⟩
theorem le_tup {es : List Expr} {m : M (List D)} {x1} {pos : Pos} (h : LA X c W es m) (hz : es.length ≤ 1000 := by decide) : LE X c W (.Tuple es x1 pos) (mTup m) :=
  PE.imp (pe_tupZ h) fun σ H Q ⟨l, S, rp, po⟩ => by
    refine ⟨l, S, rp, Po.bind po fun ds S1 vs H1 l1 e rp1 g1 q1 po1 => ?_⟩
    refine ⟨?_, fun p ob hp hob => ?_⟩
    · rw [q1.1.length, q1.2, sizeLine_eq]
      omega
    · have := rp1.lay (o := .frz ob (.tup vs)) hp (fun _ z => nomatch z)
      exact po1 _ _ _ this.1 this.2 (.tup (SqN.of upd_same hob) (q1.1.grow this.2))
theorem le_lst {es : List Expr} {m : M (List D)} {pos : Pos} (h : LA X c W es m) (hz : es.length ≤ 1000 := by decide) : LE X c W (.List es pos) (mLst m) :=
  PE.imp (pe_lst h) fun σ H Q ⟨l, S, rp, po⟩ => by
    refine ⟨l, S, rp, Po.bind po fun ds S1 vs H1 l1 e rp1 g1 q1 po1 => ?_⟩
    refine ⟨?_, fun p hp => ?_⟩
    · rw [q1.1.length, q1.2, sizeLine_eq]
      omega
    · have := rp1.lay (o := .lst vs) hp (fun _ z => nomatch z)
      exact po1 _ _ _ this.1 this.2 (.lst upd_same (q1.1.grow this.2))

/-! ### operations -/
/-- an operation's rule serves the mirror's function -/
def Sem2 (K : PySem.W.Frag) (f : D → D → Option D) (r : R2) : Prop := ∀ (l : Lh) (H : Hp) (v w : V) (a b d : D) (Q : VK), Ext l.L H → Rv K l H v a → Rv K l H w b → f a b = some d → Give K l H d Q → r v w H Q
theorem le_m2 {t : TE → TE → TE} {e a b : Expr} {o p : Opd} {f : D → D → Option D} {r : R2} (hp : ∀ {ta tb : TE}, PE X a ta → PE X b tb → PE X e (tOp r ta tb)) (hs : Sem2 X.K f r) (ha : LO X c W a o) (hb : LO X c W b p) : LE X c W e (m2 f o p) :=
  PE.imp (hp ha hb) fun σ H Q ⟨l, S, rp, po⟩ => by
    refine ⟨l, S, rp, Po.bind (R := RO X.K σ o) po fun x S1 v H1 l1 _ rp1 g1 q1 po1 => ?_⟩
    refine ⟨l1, S1, rp1, Po.bind (R := RO X.K σ p) po1 fun y S2 w H2 l2 _ rp2 g2 q2 po2 => ?_⟩
    obtain ⟨da, ra, po3⟩ := Po.rd rp2 (Gr.refl _) (q1.grow g2) po2
    obtain ⟨db, rb, po4⟩ := Po.rd rp2 (Gr.refl _) q2 po3
    obtain ⟨d, e, po5⟩ := Po.opt po4
    exact hs l2 H2 v w da db d Q rp2.rt.lh ra rb e (po5.give rp2)
theorem le_bin {op : Operator} {a b : Expr} {o p : Opd} {pos : Pos} {f : D → D → Option D} {r : R2} (ho : OpR X (binaryOp op) r) (hs : Sem2 X.K f r) (ha : LO X c W a o) (hb : LO X c W b p) : LE X c W (.BinOp a op b pos) (m2 f o p) :=
  le_m2 (t := tOp r) (fun h1 h2 => pe_op ho h1 h2) hs ha hb
theorem le_cmp {op : CmpOp} {a b : Expr} {o p : Opd} {pos : Pos} {f : D → D → Option D} {r : R2} (ho : OpR X (compareOp op) r) (hs : Sem2 X.K f r) (hm : behindInMarks op b = false) (ha : LO X c W a o) (hb : LO X c W b p) : LE X c W (.Compare a [op] [b] pos) (m2 f o p) :=
  le_m2 (t := tOp r) (fun h1 h2 => pe_cmpR ho h1 h2 hm) hs ha hb
def Sem1 (K : PySem.W.Frag) (f : D → Option D) (r : V → Hp → VK → Prop) : Prop := ∀ (l : Lh) (H : Hp) (v : V) (a d : D) (Q : VK), Ext l.L H → Rv K l H v a → f a = some d → Give K l H d Q → r v H Q
theorem le_un {op : UnaryOp} {a : Expr} {o : Opd} {pos : Pos} {f : D → Option D} {r : V → Hp → VK → Prop} (ho : UnR X (unaryOp op) r) (hs : Sem1 X.K f r) (ha : LO X c W a o) : LE X c W (.UnaryOp op a pos) (m1 f o) :=
  PE.imp (pe_un ho ha) fun σ H Q ⟨l, S, rp, po⟩ => by
    refine ⟨l, S, rp, Po.bind (R := RO X.K σ o) po fun x S1 v H1 l1 _ rp1 g1 q1 po1 => ?_⟩
    obtain ⟨da, ra, po2⟩ := Po.rd rp1 (Gr.refl _) q1 po1
    obtain ⟨d, e, po3⟩ := Po.opt po2
    exact hs l1 H1 v da d Q rp1.rt.lh ra e (po3.give rp1)
/-- a built-in's call -/
def SemB (K : PySem.W.Frag) (f : List D → Option D) (r : List V → Hp → VK → Prop) : Prop := ∀ (l : Lh) (H : Hp) (vs : List V) (as : List D) (d : D) (Q : VK), Ext l.L H → RvAll K l H vs as → f as = some d → Give K l H d Q → r vs H Q
theorem le_bi {e : Expr} {es : List Expr} {os : List Opd} {f : List D → Option D} {r : List V → Hp → VK → Prop} (hp : ∀ {t : TA}, PA X es t → PE X e (tCB r t)) (hs : SemB X.K f r) (ha : LOs X c W es os) : LE X c W e (mBi f os) :=
  PE.imp (hp ha) fun σ H Q ⟨l, S, rp, po⟩ => by
    refine ⟨l, S, rp, Po.bind (R := ROs X.K σ os) po fun xs S1 vs H1 l1 _ rp1 g1 q1 po1 => ?_⟩
    obtain ⟨as, ra, po2⟩ := Po.rds rp1 (Gr.refl _) q1 po1
    obtain ⟨d, e, po3⟩ := Po.opt po2
    exact hs l1 H1 vs as d Q rp1.rt.lh ra e (po3.give rp1)
/-- a built-in by its name -/
theorem le_blt {x : Str} {id : String} {e : Expr} {es : List Expr} {os : List Opd} {p pos : Pos} {f : List D → Option D} {r : List V → Hp → VK → Prop} (hc : CallR X (.builtin id) r) (hs : SemB X.K f r) (hm : X.mg x = none) (ha : LOs X c W (e :: es) os)
    (hg : Gl X x := by rfl) (hv : bootBuiltins x = some (.builtin id) := by decide +kernel) (hn : x ≠ "__name__" := by decide) (hdb : (x == ("__debug__" : Str)) = false := by decide) (hst : starEach (e :: es) X.env = (false, eval e X.env) :: starEach es X.env := by rfl)
    (hpl : (backTo pos (starEach es X.env)).any (·.1) = false := by rfl) : LE X c W (.Call (.Name x p) (e :: es) [] pos) (mBi f os) :=
  le_bi (fun h => pe_callB hc hg hm hv h hn hdb hst hpl) hs ha
/-- a built-in class by its name -/
theorem le_bty {x : Str} {T : String} {e : Expr} {es : List Expr} {os : List Opd} {p pos : Pos} {f : List D → Option D} {r : List V → Hp → VK → Prop} (hc : CallR X (.type T) r) (hs : SemB X.K f r) (hm : X.mg x = none) (ha : LOs X c W (e :: es) os)
    (hg : Gl X x := by rfl) (hv : bootBuiltins x = some (.type T) := by decide +kernel) (hn : x ≠ "__name__" := by decide) (hdb : (x == ("__debug__" : Str)) = false := by decide) (hst : starEach (e :: es) X.env = (false, eval e X.env) :: starEach es X.env := by rfl)
    (hpl : (backTo pos (starEach es X.env)).any (·.1) = false := by rfl) : LE X c W (.Call (.Name x p) (e :: es) [] pos) (mBi f os) :=
  le_bi (fun h => pe_callTy hc hg hm hv h hn hdb hst hpl) hs ha
/-- a chain of two comparisons -/
theorem le_chain {op op' : CmpOp} {a b d : Expr} {ma mb md : M D} {pos : Pos} {f g : D → D → Option D} {r r' : R2} (ho : OpR X (compareOp op) r) (ho' : OpR X (compareOp op') r') (hs : Sem2 X.K f r) (hs' : Sem2 X.K g r') (ha : LE X c W a ma) (hb : LE X c W b mb) (hd : LE X c W d md) (hm : lastMarks [op, op'] [b, d] = false := by rfl) :
    LE X c W (.Compare a [op, op'] [b, d] pos) (mCh f g ma mb md) :=
  PE.imp (pe_chain ho ho' ha hb hd hm) fun σ H Q ⟨l, S, rp, po⟩ => by
    refine ⟨l, S, rp, Po.bind (R := Dt X.K) po fun x S1 v H1 l1 _ rp1 g1 q1 po1 => ?_⟩
    refine ⟨l1, S1, rp1, Po.bind (R := Dt X.K) po1 fun y S2 w H2 l2 _ rp2 g2 q2 po2 => ?_⟩
    have po2 : Po X.K c W l2 σ (Dt X.K) Q (bnd (opt (f x y)) (fun z => match z with
      | .bl true => bnd md fun w => opt (g y w)
      | .bl false => ret (.bl false)
      | _ => stuck) S2) := po2
    cases e : f x y with
    | none =>
      rw [e] at po2
      exact po2.elim
    | some z =>
      rw [e] at po2
      have po3 : Po X.K c W l2 σ (Dt X.K) Q ((match z with
        | .bl true => bnd md fun w => opt (g y w)
        | .bl false => ret (.bl false)
        | _ => stuck) S2) := po2
      have key : ∀ k, z = .bl k → (if k = true then liftE X.K c W md σ H2 (fun w' H4 => r' w w' H4 Q) else Q (.bl false) H2) := by
        intro k hk
        subst hk
        cases k with
        | true =>
          rw [if_pos rfl]
          refine ⟨l2, S2, rp2, Po.bind (R := Dt X.K) po3 fun u S3 w3 H3 l3 _ rp3 g3 q3 po4 => ?_⟩
          obtain ⟨dd, e4, po5⟩ := Po.opt po4
          exact hs' l3 H3 w w3 y u dd Q rp3.rt.lh (.inl (q2.grow g3)) (.inl q3) e4 (po5.give rp3)
        | false =>
          rw [if_neg Bool.false_ne_true]
          exact po3 _ H2 l2 rp2 (Gr.refl _) (.bl false)
      have hb : ∃ k, z = .bl k := by
        cases z with
        | bl k => exact ⟨k, rfl⟩
        | _ => exact po3.elim
      obtain ⟨k, hk⟩ := hb
      refine hs l2 H2 v w x y z _ rp2.rt.lh (.inl (q1.grow g2)) (.inl q2) e ⟨fun u hu => ?_, fun p o hp no hu => ?_⟩
      · subst hk
        cases hu
        exact ⟨k, rfl, key k rfl⟩
      · subst hk
        cases hu

/-! ### tests and truth values -/
theorem lt_b {e : Expr} {m : M D} (h : LE X c W e m) (he : ∀ whole, isTrue e X.env whole = (do let v ← whole; standAt e.pos; holding [v] (truthy v)) := by intro _; rfl) : LT X c W e (tB m) :=
  PT.imp (pt_val h he) fun σ H Q ⟨l, S, rp, po⟩ => by
    refine ⟨l, S, rp, Po.bind (R := Dt X.K) po fun x S1 v H1 l1 _ rp1 g1 q1 po1 => ?_⟩
    obtain ⟨b, e, po2⟩ := Po.opt po1
    cases x with
    | bl k =>
      cases q1
      cases e
      exact ⟨_, rfl, po2 _ H1 l1 rp1 (Gr.refl _) rfl⟩
    | _ => cases e
theorem lt_cmp {op : CmpOp} {a b : Expr} {o p : Opd} {pos : Pos} {f : D → D → Option D} {r : R2} (ho : OpR X (compareOp op) r) (hs : Sem2 X.K f r) (hm : behindInMarks op b = false) (ha : LO X c W a o) (hb : LO X c W b p) : LT X c W (.Compare a [op] [b] pos) (tB (m2 f o p)) :=
  PT.imp (pt_cmpR ho ha hb hm) fun σ H Q ⟨l, S, rp, po⟩ => by
    have po : Po X.K c W l σ (fun _ b b' => b = b') Q (bnd (m2 f o p) (fun x => opt (asB x)) S) := po
    unfold m2 at po
    refine ⟨l, S, rp, ?_⟩
    have e1 : ∀ (g : D → M D) (k : D → M Bool) (m : M D), bnd (bnd m g) k = bnd m fun x => bnd (g x) k := fun g k m => by
      funext s
      unfold bnd
      cases m s <;> rfl
    rw [e1] at po
    refine Po.bind (R := RO X.K σ o) po fun x S1 v H1 l1 _ rp1 g1 q1 po1 => ?_
    rw [e1] at po1
    refine ⟨l1, S1, rp1, Po.bind (R := RO X.K σ p) po1 fun y S2 w H2 l2 _ rp2 g2 q2 po2 => ?_⟩
    rw [e1] at po2
    obtain ⟨da, ra, po3⟩ := Po.rd rp2 (Gr.refl _) (q1.grow g2) po2
    rw [e1] at po3
    obtain ⟨db, rb, po4⟩ := Po.rd rp2 (Gr.refl _) q2 po3
    cases e : f da db with
    | none =>
      rw [e] at po4
      exact po4.elim
    | some d =>
      rw [e] at po4
      have po5 : Po X.K c W l2 σ (fun _ b b' => b = b') Q (opt (asB d) S2) := po4
      obtain ⟨b, eb, po6⟩ := Po.opt po5
      have hd : d = .bl b := by
        cases d with
        | bl k =>
          cases eb
          rfl
        | _ => cases eb
      subst hd
      refine hs l2 H2 v w da db _ _ rp2.rt.lh ra rb e ⟨fun u hu => ?_, fun p o hp no hu => ?_⟩
      · cases hu
        exact ⟨b, rfl, po6 b H2 l2 rp2 (Gr.refl _) rfl⟩
      · cases hu
theorem lt_not {a : Expr} {m : M Bool} {pos : Pos} (h : LT X c W a m) : LT X c W (.UnaryOp .Not a pos) (Lw.tNot m) :=
  PT.imp (pt_not h) fun σ H Q ⟨l, S, rp, po⟩ => ⟨l, S, rp, Po.bind po fun x S1 v H1 l1 _ rp1 g1 q1 po1 => by
    subst q1
    exact po1 (!v) H1 l1 rp1 (Gr.refl _) rfl⟩
abbrev LW (X : Cx) (c : Pk) (W : WX) (e : Expr) (m : M Bool) : Prop := PW X e (liftT X.K c W m)
theorem lw_and1 {a : Expr} {m : M Bool} {pos : Pos} (h : LT X c W a m) : LW X c W (.BoolOp .And [a] pos) m := pw_and1 h
theorem lw_or1 {a : Expr} {m : M Bool} {pos : Pos} (h : LT X c W a m) : LW X c W (.BoolOp .Or [a] pos) m := pw_or1 h
theorem lw_and {a b : Expr} {rest : List Expr} {m n : M Bool} {pos : Pos} (h : LT X c W a m) (hb : LW X c W (.BoolOp .And (b :: rest) pos) n) : LW X c W (.BoolOp .And (a :: b :: rest) pos) (Lw.tAnd m n) :=
  PW.imp (pw_and h hb) fun σ H Q ⟨l, S, rp, po⟩ => ⟨l, S, rp, Po.bind po fun x S1 v H1 l1 _ rp1 g1 q1 po1 => by
    subst q1
    cases v with
    | true => exact ⟨l1, S1, rp1, po1⟩
    | false => exact po1 false H1 l1 rp1 (Gr.refl _) rfl⟩
theorem lw_or {a b : Expr} {rest : List Expr} {m n : M Bool} {pos : Pos} (h : LT X c W a m) (hb : LW X c W (.BoolOp .Or (b :: rest) pos) n) : LW X c W (.BoolOp .Or (a :: b :: rest) pos) (Lw.tOr m n) :=
  PW.imp (pw_or h hb) fun σ H Q ⟨l, S, rp, po⟩ => ⟨l, S, rp, Po.bind po fun x S1 v H1 l1 _ rp1 g1 q1 po1 => by
    subst q1
    cases v with
    | true => exact po1 true H1 l1 rp1 (Gr.refl _) rfl
    | false => exact ⟨l1, S1, rp1, po1⟩⟩
theorem lt_w {e : Expr} {m : M Bool} (h : LW X c W e m) : LT X c W e m := PW.pt h
theorem asB_some {x : D} {b : Bool} (h : asB x = some b) : x = .bl b := by
  cases x with
  | bl k =>
    cases h
    rfl
  | _ => cases h
theorem le_one {op : BoolOp} {a : Expr} {m : M D} {pos : Pos} (h : LE X c W a m) : LE X c W (.BoolOp op [a] pos) m := pe_one h
theorem le_and {a b : Expr} {rest : List Expr} {m n : M D} {pos : Pos} (h : LE X c W a m) (hb : LE X c W (.BoolOp .And (b :: rest) pos) n) : LE X c W (.BoolOp .And (a :: b :: rest) pos) (mAnd m n) :=
  PE.imp (pe_and h hb) fun σ H Q ⟨l, S, rp, po⟩ => ⟨l, S, rp, Po.bind (R := Dt X.K) po fun x S1 v H1 l1 _ rp1 g1 q1 po1 => by
    cases e : asB x with
    | none =>
      rw [e] at po1
      exact po1.elim
    | some k =>
      rw [e] at po1
      have := asB_some e
      subst this
      cases q1
      cases k with
      | true => exact ⟨true, rfl, ⟨l1, S1, rp1, po1⟩⟩
      | false => exact ⟨false, rfl, po1 _ H1 l1 rp1 (Gr.refl _) (.bl false)⟩⟩
theorem le_or {a b : Expr} {rest : List Expr} {m n : M D} {pos : Pos} (h : LE X c W a m) (hb : LE X c W (.BoolOp .Or (b :: rest) pos) n) : LE X c W (.BoolOp .Or (a :: b :: rest) pos) (mOr m n) :=
  PE.imp (pe_or h hb) fun σ H Q ⟨l, S, rp, po⟩ => ⟨l, S, rp, Po.bind (R := Dt X.K) po fun x S1 v H1 l1 _ rp1 g1 q1 po1 => by
    cases e : asB x with
    | none =>
      rw [e] at po1
      exact po1.elim
    | some k =>
      rw [e] at po1
      have := asB_some e
      subst this
      cases q1
      cases k with
      | true => exact ⟨true, rfl, po1 _ H1 l1 rp1 (Gr.refl _) (.bl true)⟩
      | false => exact ⟨false, rfl, ⟨l1, S1, rp1, po1⟩⟩⟩
theorem le_not {a : Expr} {m : M D} {pos : Pos} (h : LE X c W a m) : LE X c W (.UnaryOp .Not a pos) (mNot m) :=
  PE.imp (pe_not h) fun σ H Q ⟨l, S, rp, po⟩ => ⟨l, S, rp, Po.bind (R := Dt X.K) po fun x S1 v H1 l1 _ rp1 g1 q1 po1 => by
    cases e : asB x with
    | none =>
      rw [e] at po1
      exact po1.elim
    | some k =>
      rw [e] at po1
      have := asB_some e
      subst this
      cases q1
      exact ⟨k, rfl, po1 _ H1 l1 rp1 (Gr.refl _) (.bl (!k))⟩⟩
theorem le_if {t a b : Expr} {mt : M Bool} {ma mb : M D} {pos : Pos} (ht : LT X c W t mt) (ha : LE X c W a ma) (hb : LE X c W b mb) : LE X c W (.IfExp t a b pos) (mIf mt ma mb) :=
  PE.imp (pe_ifExp ht ha hb) fun σ H Q ⟨l, S, rp, po⟩ => ⟨l, S, rp, Po.bind po fun x S1 v H1 l1 _ rp1 g1 q1 po1 => by
    subst q1
    cases v with
    | true => exact ⟨l1, S1, rp1, po1⟩
    | false => exact ⟨l1, S1, rp1, po1⟩⟩
/-- a truth of any value -/
theorem lt_tr {e : Expr} {o : Opd} (h : LO X c W e o) (he : ∀ whole, isTrue e X.env whole = (do let v ← whole; standAt e.pos; holding [v] (truthy v)) := by intro _; rfl) : LT X c W e (tTr o) :=
  PT.imp (pt_truth h he) fun σ H Q ⟨l, S, rp, po⟩ => by
    refine ⟨l, S, rp, Po.bind (R := RO X.K σ o) po fun x S1 v H1 l1 _ rp1 g1 q1 po1 => ?_⟩
    obtain ⟨d, rv, po2⟩ := Po.rd rp1 (Gr.refl _) q1 po1
    obtain ⟨b, e, po3⟩ := Po.opt po2
    have fin := po3 b H1 l1 rp1 (Gr.refl _) rfl
    cases d with
    | non =>
      rw [rv.non]
      cases e
      exact ⟨_, rfl, fin⟩
    | bl k =>
      rw [rv.bl]
      cases e
      exact ⟨_, rfl, fin⟩
    | int k =>
      rw [rv.int]
      cases e
      exact ⟨_, rfl, fin⟩
    | str k =>
      rw [rv.str]
      have e : (if k.length ≤ 16777216 then some ((k.length : Int) != 0) else none) = some b := e
      split at e
      · rename_i hk
        cases e
        exact ⟨_, ⟨by rw [sizeLine_eq]; exact hk, rfl⟩, fin⟩
      · cases e
    | tup ds =>
      obtain ⟨a, vs, rfl, hs, hd⟩ := rv.tup rp1.rt.lh
      cases e
      refine ⟨_, .inr (.inl ⟨vs, hs, ?_⟩), fin⟩
      have := hd.length
      cases vs <;> cases ds <;> first | rfl | cases this
    | lst ds =>
      obtain ⟨a, vs, rfl, hs, hd⟩ := rv.lst rp1.rt.lh
      cases e
      refine ⟨_, .inl ⟨vs, SqL.of hs, ?_⟩, fin⟩
      have := hd.length
      cases vs <;> cases ds <;> first | rfl | cases this
    | _ => cases e
end
end Lw

set_option Elab.async false
set_option linter.all false
set_option maxRecDepth 100000
set_option maxHeartbeats 4000000
/-! Lw: statements, targets, loops, calls of own defs, a def's body. -/
namespace Lw
open PySem PySem.Spec PyProof.Rows L2

section
variable {X : Cx} {c : Pk} {W : WX}
/-! ### blocks -/
theorem lb_nil : LB X c W [] sNx := PSs.imp pss_nil fun D σ H ⟨l, S, rp, po⟩ => po σ H l rp (Gr.refl _)
theorem seq_imp {a b : M Fl} {D : Ends} {σ : L2.St} {H : Hp} (h : liftS X.K c W (sSeq a b) D σ H) : liftS X.K c W a { D with nx := liftS X.K c W b D } σ H := by
  obtain ⟨l, S, rp, po⟩ := h
  refine ⟨l, S, rp, ?_⟩
  unfold sSeq at po
  cases e : a S with
  | ok f S' =>
    rw [bnd_ok e] at po
    intro σ' H' l' rp' g
    cases f with
    | nx => exact ⟨l', S', rp', PoS.grow g po⟩
    | rt d => exact po σ' H' l' rp' g
    | bk => exact po σ' H' l' rp' g
    | ct => exact po σ' H' l' rp' g
  | er x S' =>
    rw [bnd_er e] at po
    exact po
  | no =>
    rw [bnd_no e] at po
    exact po
theorem lb_cons {st : Stmt} {rest : List Stmt} {a b : M Fl} (h1 : LS X c W st a) (h2 : LB X c W rest b) : LB X c W (st :: rest) (sSeq a b) :=
  PSs.imp (pss_cons h1 h2) fun D σ H h => seq_imp h
theorem lb_one {st : Stmt} {a : M Fl} (h1 : LS X c W st a) : LB X c W [st] a := pss_one h1
theorem ls_pass {pos : Pos} : LS X c W (.Pass pos) sNx := PS.imp ps_pass fun D σ H ⟨l, S, rp, po⟩ => po σ H l rp (Gr.refl _)
theorem ls_brk {pos : Pos} : LS X c W (.Break pos) sBrk := PS.imp ps_break fun D σ H ⟨l, S, rp, po⟩ => po σ H l rp (Gr.refl _)
theorem ls_cnt {pos : Pos} : LS X c W (.Continue pos) sCnt := PS.imp ps_continue fun D σ H ⟨l, S, rp, po⟩ => po σ H l rp (Gr.refl _)
theorem ls_expr {e : Expr} {m : M D} {pos : Pos} (h : LE X c W e m) (hs : swapsWith e none pos.line X.env = pure false := by rfl) : LS X c W (.Expr e pos) (sDrop m) :=
  PS.imp (ps_expr h hs) fun D σ H ⟨l, S, rp, po⟩ => ⟨l, S, rp, Po.bindS (R := Dt X.K) po fun d S1 v H1 l1 _ rp1 g1 q1 po1 => po1 σ H1 l1 rp1 (Gr.refl _)⟩
theorem ls_ret {e : Expr} {m : M D} {pos : Pos} (h : LE X c W e m) : LS X c W (.Return (some e) pos) (sRet m) :=
  PS.imp (ps_ret h) fun D σ H ⟨l, S, rp, po⟩ => ⟨l, S, rp, Po.bindS (R := Dt X.K) po fun d S1 v H1 l1 _ rp1 g1 q1 po1 => po1 σ H1 l1 rp1 (Gr.refl _) v q1⟩
theorem ls_retN {pos : Pos} : LS X c W (.Return none pos) sRetN := PS.imp ps_retN fun D σ H ⟨l, S, rp, po⟩ => po σ H l rp (Gr.refl _) .non .non
theorem ls_if {t : Expr} {a b : List Stmt} {mt : M Bool} {ma mb : M Fl} {pos : Pos} (ht : LT X c W t mt) (ha : LB X c W a ma) (hb : LB X c W b mb) : LS X c W (.If t a b pos) (sIf mt ma mb) :=
  PS.imp (ps_if ht ha hb) fun D σ H ⟨l, S, rp, po⟩ => ⟨l, S, rp, Po.bindS (R := fun _ b b' => b = b') po fun d S1 v H1 l1 _ rp1 g1 q1 po1 => by
    subst q1
    cases v with
    | true => exact ⟨l1, S1, rp1, po1⟩
    | false => exact ⟨l1, S1, rp1, po1⟩⟩

/-! ### targets -/
theorem lg_v (i : Nat) {x : Str} {pos : Pos} (hN : X.N.Nodup) (hi : X.N[i]? = some x := by rfl) (hx : Loc X.env.scope x := by first | exact Or.inl rfl | exact Or.inr rfl) (hf : X.fn x = true ∨ X.env.scope.names.lookup x = some .local := by first | exact .inl rfl | exact .inr rfl) {vs : Nat → Prop} (hvs : vs i := by first | exact trivial | exact rfl | (simp; done)) : LG X c vs (.Name x pos) (gV i) := by
  have h := pg_name (pos := pos) hN hi hx hf
  refine ⟨fun pins s σ H v u Q I r ⟨l, S, d, rp, dt, k⟩ => h.run pins s σ H v u Q I r ?_⟩
  have k : match (if i < S.σ.length then Res.ok () { S with σ := S.σ.set i (some (.d d)) } else Res.no) with
    | .ok _ S' => ∀ σ' H' l', Rep X.K c l' S' σ' H' → Gr l l' → Off vs σ σ' → Q σ' H'
    | _ => False := k
  by_cases hi2 : i < S.σ.length
  · rw [if_pos hi2] at k
    exact k _ H l (rp.set dt) (Gr.refl _) (Off.set hvs)
  · rw [if_neg hi2] at k
    exact k.elim
structure LGs (X : Cx) (c : Pk) (vs : Nat → Prop) (ts : List Expr) (gs : List Tg) : Prop where
  run : PGs X ts (liftTgs X.K c vs gs)
theorem lgs_nil {vs : Nat → Prop} : LGs X c vs [] [] := ⟨⟨fun pins s σ H vs us Q I r ⟨l, S, ds, rp, dt, k⟩ => by
  cases dt with
  | nil => exact pgs_nil.run pins s σ H [] us Q I r ⟨rfl, k σ H l rp (Gr.refl _) (Off.refl _ _)⟩
  | cons _ _ => exact k.elim⟩⟩
theorem lgs_cons {vs0 : Nat → Prop} {e : Expr} {es : List Expr} {g : Tg} {gs : List Tg} (h1 : LG X c vs0 e g) (h2 : LGs X c vs0 es gs)
    (hs : (assignEach (e :: es) X.env).map (·.2) = assign e X.env :: (assignEach es X.env).map (·.2) := by rfl) : LGs X c vs0 (e :: es) (g :: gs) := ⟨⟨fun pins s σ H vs us Q I r ⟨l, S, ds, rp, dt, k⟩ => by
  refine (pgs_cons h1 h2.run hs).run pins s σ H vs us Q I r ?_
  cases dt with
  | nil => exact k.elim
  | @cons v vs d ds dv dvs =>
    refine ⟨v, vs, rfl, l, S, d, rp, dv, ?_⟩
    have k : match bnd (g d) (fun _ => gAll gs ds) S with
      | .ok _ S' => ∀ σ' H' l', Rep X.K c l' S' σ' H' → Gr l l' → Off vs0 σ σ' → Q σ' H'
      | _ => False := k
    cases e1 : g d S with
    | ok u S1 =>
      rw [bnd_ok e1] at k
      intro σ' H' l' rp' gr off
      refine ⟨l', S1, ds, rp', dvs.grow gr, ?_⟩
      cases e2 : gAll gs ds S1 with
      | ok u2 S2 =>
        rw [e2] at k
        exact fun σ2 H2 l2 rp2 g2 off2 => k σ2 H2 l2 rp2 (gr.trans g2) (off.trans off2)
      | er x S2 =>
        rw [e2] at k
        exact k
      | no =>
        rw [e2] at k
        exact k
    | er x S1 =>
      rw [bnd_er e1] at k
      exact k.elim
    | no =>
      rw [bnd_no e1] at k
      exact k.elim⟩⟩
theorem gAll_len {gs : List Tg} : ∀ {ds : List D} {S S' : Lw.S} {u : Unit}, gAll gs ds S = .ok u S' → ds.length = gs.length := by
  induction gs with
  | nil =>
    intro ds S S' u h
    cases ds with
    | nil => rfl
    | cons _ _ => cases h
  | cons g gs ih =>
    intro ds S S' u h
    cases ds with
    | nil => cases h
    | cons d ds =>
      have h : bnd (g d) (fun _ => gAll gs ds) S = .ok u S' := h
      cases e : g d S with
      | ok v S1 =>
        rw [bnd_ok e] at h
        simp [ih h]
      | er x S1 =>
        rw [bnd_er e] at h
        cases h
      | no =>
        rw [bnd_no e] at h
        cases h
theorem lg_t {vs0 : Nat → Prop} {es : List Expr} {k : Nat} {gs : List Tg} {pos : Pos} (hc : X.calm = true) (h : LGs X c vs0 es gs) (hn : (assignEach es X.env).length = gs.length := by rfl) (hst : (assignEach es X.env).findIdx? (·.1) = none := by rfl) :
    LG X c vs0 (.Tuple es k pos) (gT gs) := ⟨fun pins s σ H v u Q I r ⟨l, S, d, rp, dt, q⟩ => by
  refine (pg_tup (n := gs.length) hc h.run hn hst).run pins s σ H v u Q I r ?_
  cases dt with
  | @tup a xs ds hs0 hd =>
    have hs := hs0.sqT
    have q : match gAll gs ds S with
      | .ok _ S' => ∀ σ' H' l', Rep X.K c l' S' σ' H' → Gr l l' → Off vs0 σ σ' → Q σ' H'
      | _ => False := q
    have hl : ds.length = gs.length := by
      cases e : gAll gs ds S with
      | ok u S' => exact gAll_len e
      | er x S' =>
        rw [e] at q
        exact q.elim
      | no =>
        rw [e] at q
        exact q.elim
    exact ⟨a, xs, rfl, rp.rt.lh.sqT hs, hd.length.trans hl, l, S, ds, rp, hd, q⟩
  | @pr a xs ds hs hd =>
    have q : match gAll gs ds S with
      | .ok _ S' => ∀ σ' H' l', Rep X.K c l' S' σ' H' → Gr l l' → Off vs0 σ σ' → Q σ' H'
      | _ => False := q
    have hl : ds.length = gs.length := by
      cases e : gAll gs ds S with
      | ok u S' => exact gAll_len e
      | er x S' =>
        rw [e] at q
        exact q.elim
      | no =>
        rw [e] at q
        exact q.elim
    exact ⟨a, xs, rfl, rp.rt.lh.sqT hs, hd.length.trans hl, l, S, ds, rp, hd, q⟩
  | _ => exact q.elim⟩
theorem asg_imp {m : M D} {g : Tg} {D : Ends} {σ : L2.St} {H : Hp} (h : liftS X.K c W (sAsg m g) D σ H) : tAsg (liftE X.K c W m) (liftTg X.K c anyS g) D σ H := by
  obtain ⟨l, S, rp, po⟩ := h
  refine ⟨l, S, rp, Po.bindS (R := Dt X.K) po fun d S1 v H1 l1 _ rp1 g1 q1 po1 => ?_⟩
  refine ⟨l1, S1, d, rp1, q1, ?_⟩
  cases e : g d S1 with
  | ok u S2 =>
    have e' : cl (g d) S1 = .ok u S2 := by unfold cl; rw [e]
    rw [bnd_ok e'] at po1
    exact fun σ' H' l' rp' gr _ => po1 σ' H' l' rp' gr
  | er x S2 =>
    have e' : cl (g d) S1 = .no := by unfold cl; rw [e]
    rw [bnd_no e'] at po1
    exact po1
  | no =>
    have e' : cl (g d) S1 = .no := by unfold cl; rw [e]
    rw [bnd_no e'] at po1
    exact po1
theorem ls_asg {tg e : Expr} {m : M D} {g : Tg} {pos : Pos} (h : LE X c W e m) (hg : LG X c anyS tg g) (hs : swapsWithSole [tg] e pos.line X.env = pure false := by rfl) (hw : swappedStores [tg] e X.env = pure none := by rfl)
    (h1 : (assignEach [tg] X.env).map (·.2) = [assign tg X.env] := by rfl) : LS X c W (.Assign [tg] e pos) (sAsg m g) := PS.imp (ps_asg h hg hs hw h1) fun D σ H h => asg_imp h
theorem ls_set (i : Nat) {x : Str} {e : Expr} {m : M D} {pos pos' : Pos} (hN : X.N.Nodup) (h : LE X c W e m) (hi : X.N[i]? = some x := by rfl) (hx : Loc X.env.scope x := by first | exact Or.inl rfl | exact Or.inr rfl) (hs : swapsWith e (some (.Name x pos')) pos.line X.env = pure false := by rfl)
    (hf : X.fn x = true ∨ X.env.scope.names.lookup x = some .local := by first | exact .inl rfl | exact .inr rfl) : LS X c W (.Assign [.Name x pos'] e pos) (sAsg m (gV i)) :=
  PS.imp (ps_set hN hi hx h hs hf) fun D σ H h => by
    obtain ⟨l, S, rp, po⟩ := h
    refine ⟨l, S, rp, Po.bindS (R := Dt X.K) po fun d S1 v H1 l1 _ rp1 g1 q1 po1 => ?_⟩
    by_cases hi2 : i < S1.σ.length
    · have e' : cl (gV i d) S1 = .ok () { S1 with σ := S1.σ.set i (some (.d d)) } := by
        unfold cl gV putS
        rw [if_pos hi2]
      rw [bnd_ok e'] at po1
      exact po1 _ H1 l1 (rp1.set q1) (Gr.refl _)
    · have e' : cl (gV i d) S1 = .no := by
        unfold cl gV putS
        rw [if_neg hi2]
      rw [bnd_no e'] at po1
      exact po1.elim
/-- a, b = x, y with plain names -/
theorem ls_par (i j : Nat) {x y : Str} {a b : Expr} {m : M (List D)} {px py pt pos : Pos} {kt k2 pt2} (hc : X.calm = true) (hN : X.N.Nodup) (ha : LA X c W [a, b] m) (hi : X.N[i]? = some x := by rfl) (hj : X.N[j]? = some y := by rfl) (hij : i ≠ j := by decide)
    (hx : X.env.scope.names.lookup x = some .local := by rfl) (hy : X.env.scope.names.lookup y = some .local := by rfl) (hw : swappedStores [.Tuple [.Name x px, .Name y py] kt pt] (.Tuple [a, b] k2 pt2) X.env = pure (some [x, y]) := by rfl) :
    LS X c W (.Assign [.Tuple [.Name x px, .Name y py] kt pt] (.Tuple [a, b] k2 pt2) pos) (sAsg (mTup m) (gT [gV i, gV j])) :=
  PS.imp (ps_par hc hN hi hj hij hx hy ha hw) fun D σ H ⟨l, S, rp, po⟩ => by
    have e1 : ∀ s, sAsg (mTup m) (gT [gV i, gV j]) s = bnd m (fun ds => bnd (cl (gT [gV i, gV j] (.tup ds))) fun _ => ret .nx) s := fun s => by
      unfold sAsg mTup bnd
      cases m s <;> rfl
    rw [e1] at po
    refine ⟨l, S, rp, Po.bindS po fun ds S1 vs H1 l1 _ rp1 g1 q1 po1 => ?_⟩
    obtain ⟨q1, q2⟩ := q1
    cases q1 with
    | nil => cases q2
    | @cons v1 vs1 d1 ds1 r1 q1 =>
      cases q1 with
      | nil => cases q2
      | @cons v2 vs2 d2 ds2 r2 q1 =>
        cases q1 with
        | cons _ _ => simp at q2
        | nil =>
          refine ⟨v1, v2, rfl, ?_⟩
          by_cases h1 : i < S1.σ.length
          · by_cases h2 : j < S1.σ.length
            · have e' : cl (gT [gV i, gV j] (.tup [d1, d2])) S1 = .ok () { S1 with σ := (S1.σ.set i (some (.d d1))).set j (some (.d d2)) } := by
                unfold cl gT gAll gAll gAll gV putS bnd
                simp [h1, h2, ret]
              rw [bnd_ok e'] at po1
              exact po1 _ H1 l1 ((rp1.set r1).set r2) (Gr.refl _)
            · have e' : cl (gT [gV i, gV j] (.tup [d1, d2])) S1 = .no := by
                unfold cl gT gAll gAll gAll gV putS bnd
                simp [h1, h2, ret]
              rw [bnd_no e'] at po1
              exact po1.elim
          · have e' : cl (gT [gV i, gV j] (.tup [d1, d2])) S1 = .no := by
              unfold cl gT gAll gAll gAll gV putS bnd
              simp [h1, ret]
            rw [bnd_no e'] at po1
            exact po1.elim

/-! ### for -/
theorem ls_for {tg it : Expr} {body : List Stmt} {mi : M (List D)} {g : Tg} {b : M Fl} {pos : Pos} (hp : PassesOwn (model X.prog X.w) X.A X.env X.xe) (hc : X.calm = true) (hi : LI X c W tg it mi) (hg : LG X c anyS tg g) (hb : LB X c W body b) (hs : ∀ x, foldedSetIterable it X.env x = pure x := by intro _; rfl) :
    LS X c W (.For tg it body [] pos) (sFor mi g b) :=
  PS.imp (ps_for hp hc hi hg hb hs) fun D σ H ⟨l, S, rp, po⟩ => by
    refine ⟨l, S, rp, ?_⟩
    unfold sFor at po
    cases e : mi S with
    | er x S1 =>
      rw [bnd_er e] at po
      exact fun cls dd H' l' rp' g' f => po cls dd σ H' l' rp' g' f
    | no =>
      rw [bnd_no e] at po
      exact po
    | ok xs S1 =>
      rw [bnd_ok e] at po
      intro J H1 l1 rp1 g1 ⟨hz, G, Y, wk, hG, hY⟩
      have po := PoS.grow g1 po
      -- the invariant: what is left of the loop
      refine for_it wk (fun i σ H => ∃ l2 S2, Rep X.K c l2 S2 σ H ∧ Gr l1 l2 ∧ PoS X.K c W l2 D (forL g b (xs.drop i) S2)) ⟨l1, S1, rp1, Gr.refl _, po⟩ (fun i σ H _ ⟨l2, S2, rp2, g2, _⟩ => hG H (g2.1.trans rp2.rt.lh)) ?_ ?_
      · rintro i x σ2 H2 H3 hi ⟨l2, S2, rp2, g2, po2⟩ hy
        obtain ⟨d, hd, hx⟩ := hY i H2 x H3 l2 hi g2 rp2.rt.lh hy
        have ed : xs.drop i = d :: xs.drop (i + 1) := by
          obtain ⟨hlt, e⟩ := List.getElem?_eq_some_iff.mp hd
          rw [← e]
          exact List.drop_eq_getElem_cons hlt
        rw [ed] at po2
        have po2 : PoS X.K c W l2 D (bnd (cl (g d)) (fun _ => bnd b fun f => match f with
          | .nx => forL g b (xs.drop (i + 1))
          | .ct => forL g b (xs.drop (i + 1))
          | .bk => ret .nx
          | .rt d => ret (.rt d)) S2) := po2
        obtain ⟨l3, rp3, g3, dt⟩ : ∃ l3, Rep X.K c l3 S2 σ2 H3 ∧ Gr l2 l3 ∧ Dt X.K l3 x d := by
          rcases hx with ⟨rfl, dt⟩ | ⟨T, vs, ds, rfl, hT, rfl, rfl, dt⟩
          · exact ⟨l2, rp2, Gr.refl _, dt⟩
          · have := rp2.lay (o := .tup vs) hT (fun _ z => nomatch z)
            exact ⟨_, this.1, this.2, .pr (SqT.of upd_same) (dt.grow this.2)⟩
        have po2 := PoS.grow g3 po2
        refine ⟨l3, S2, d, rp3, dt, ?_⟩
        cases eg : g d S2 with
        | er y S3 =>
          have e' : cl (g d) S2 = .no := by unfold cl; rw [eg]
          rw [bnd_no e'] at po2
          exact po2
        | no =>
          have e' : cl (g d) S2 = .no := by unfold cl; rw [eg]
          rw [bnd_no e'] at po2
          exact po2
        | ok u S3 =>
          have e' : cl (g d) S2 = .ok u S3 := by unfold cl; rw [eg]
          rw [bnd_ok e'] at po2
          intro σ4 H4 l4 rp4 g4 _
          have po2 := PoS.grow g4 po2
          refine ⟨l4, S3, rp4, ?_⟩
          cases eb : b S3 with
          | er y S5 =>
            rw [bnd_er eb] at po2
            exact po2
          | no =>
            rw [bnd_no eb] at po2
            exact po2
          | ok f S5 =>
            rw [bnd_ok eb] at po2
            intro σ5 H5 l5 rp5 g5
            have all := (g2.trans g3).trans (g4.trans g5)
            cases f with
            | nx => exact ⟨l5, S5, rp5, all, PoS.grow g5 po2⟩
            | ct => exact ⟨l5, S5, rp5, all, PoS.grow g5 po2⟩
            | bk => exact po2 σ5 H5 l5 rp5 g5
            | rt d => exact po2 σ5 H5 l5 rp5 g5
      · rintro σ2 H2 ⟨l2, S2, rp2, g2, po2⟩
        rw [List.drop_length] at po2
        exact po2 σ2 H2 l2 rp2 (Gr.refl _)
/-! ### while -/
theorem ls_while {t : Expr} {body : List Stmt} {mt : M Bool} {b : M Fl} {pos : Pos} (hp : PassesOwn (model X.prog X.w) X.A X.env X.xe) (ht : LT X c W t mt) (hb : LB X c W body b) : LS X c W (.While t body [] pos) (sWhile mt b) :=
  PS.imp (ps_while hp ht hb) fun D σ H ⟨l, S, rp, po⟩ => by
    refine ⟨fun n σ H => ∃ l2 S2, Rep X.K c l2 S2 σ H ∧ PoS X.K c W l2 D (whileN mt b n S2), ⟨turns, l, S, rp, po⟩, ?_⟩
    rintro n σ H ⟨l, S, rp, po⟩
    cases n with
    | zero => exact po.elim
    | succ n =>
      have po : PoS X.K c W l D (bnd mt (fun z => if z then bnd b fun f => match f with
        | .nx => whileN mt b n
        | .ct => whileN mt b n
        | .bk => ret .nx
        | .rt d => ret (.rt d) else ret .nx) S) := po
      refine ⟨l, S, rp, Po.bindS (R := fun _ b b' => b = b') po fun d S1 v H1 l1 _ rp1 g1 q1 po1 => ?_⟩
      subst q1
      cases v with
      | false => exact po1 σ H1 l1 rp1 (Gr.refl _)
      | true =>
        rw [if_pos rfl]
        rw [if_pos rfl] at po1
        refine ⟨fun σ H => ∃ l2 S2, Rep X.K c l2 S2 σ H ∧ PoS X.K c W l2 D (whileN mt b n S2), fun σ' H' h => ⟨n, Nat.lt_succ_self n, h⟩, l1, S1, rp1, ?_⟩
        cases e : b S1 with
        | er x S2 =>
          rw [bnd_er e] at po1
          exact po1
        | no =>
          rw [bnd_no e] at po1
          exact po1
        | ok f S2 =>
          rw [bnd_ok e] at po1
          intro σ2 H2 l2 rp2 g2
          cases f with
          | nx => exact ⟨l2, S2, rp2, PoS.grow g2 po1⟩
          | ct => exact ⟨l2, S2, rp2, PoS.grow g2 po1⟩
          | bk => exact po1 σ2 H2 l2 rp2 g2
          | rt d => exact po1 σ2 H2 l2 rp2 g2
end

/-! ### own defs -/
/-- the promise of a def: what its mirror tells -/
def spM (K : PySem.W.Frag) (T : List (Addr × Str)) (n : Nat) (fm : Fn) : Sp := fun vs H Q E => vs.length = n ∧ ∃ l ds xs, Ret K T l H l H ds ∧ DtAll K l vs xs ∧ match fm xs ds with
  | .ok d ds' => ∀ v H' l', Ret K T l H l' H' ds' → Dt K l' v d → Q v H'
  | .er x ds' => ∀ cls dd H' l', Ret K T l H l' H' ds' → Fly K l' cls dd x → E cls dd H'
  | .no => False
/-- the def at f keeps it, wherever no repr is under way -/
def FnG (P : Program) (w : World) (K : PySem.W.Frag) (mg : Str → Option Value) (base : Heap) (T : List (Addr × Str)) (k : Nat) (f : Addr) (n : Nat) (fm : Fn) : Prop :=
  ∀ (A : Around) (outer : List Env) (s : Shared) (H : Hp) (us : List Value) (vs : List V) (Q : VK) (E : XK), Room k A → A.guards = some [] → Env0 P w K mg base A outer s H → Vals vs us → spM K T n fm vs H Q E →
    codeAny (model P w) A (.call (.ref f) ⟨us, []⟩) (CR (L2.CX P w) outer P w H s Q E) s
/-- a def of the module, by its name, at level k, of n parameters -/
structure FnM (P : Program) (w : World) (K : PySem.W.Frag) (mg : Str → Option Value) (base : Heap) (T : List (Addr × Str)) (k : Nat) (x : Str) (n : Nat) (fm : Fn) : Prop where
  ex : ∃ f, mg x = some (.ref f) ∧ PySem.W.keepIn K (.ref f) = true ∧ FnG P w K mg base T k f n fm
theorem FnG.mono {P : Program} {w : World} {K : PySem.W.Frag} {mg : Str → Option Value} {base : Heap} {T : List (Addr × Str)} {j k : Nat} {f : Addr} {n : Nat} {fm : Fn} (F : FnG P w K mg base T j f n fm) (h : j ≤ k) : FnG P w K mg base T k f n fm :=
  fun A outer s H us vs Q E hr => F A outer s H us vs Q E (hr.mono h)
theorem FnM.cast {P : Program} {w : World} {K : PySem.W.Frag} {mg : Str → Option Value} {base : Heap} {T T' : List (Addr × Str)} {k : Nat} {x : Str} {n : Nat} {fm : Fn} (F : FnM P w K mg base T k x n fm) (e : T' = T) : FnM P w K mg base T' k x n fm := by
  subst e
  exact F
section
variable {X : Cx} {c : Pk} {W : WX}
theorem run_g {k n : Nat} {f : Addr} {fm : Fn} {pins : List (Addr × Obj)} {σ : L2.St} {H : Hp} {s : Shared} {Q : VK} {us : List Value} {vs : List V} (F : FnG X.prog X.w X.K X.mg X.base c.T k f n fm) (hr : Room k X.A) (gd : X.A.guards = some []) (tk : Takes X W)
    (I : Inv X pins σ H s) (r : Vals vs us) (h : spM X.K c.T n fm vs H Q (WE W σ)) : wpAny (model X.prog X.w) X.A (PySem.call (.ref f) us) (EP X pins σ Q) X.xe s := by
  refine wpAny_call (codeAny_mono (F X.A X.stack s H us vs Q (WE W σ) hr gd I.env0 r h) fun r s' hq => ?_)
  cases r with
  | error e => exact passAt tk σ pins H s e s' I hq
  | ok fl =>
    cases fl with
    | ret u => exact I.after hq
    | next => exact hq.elim
    | brk => exact hq.elim
    | cont => exact hq.elim
theorem call_imp {n : Nat} {fm : Fn} {m : M (List D)} {σ : L2.St} {H : Hp} {Q : VK} (h : liftE X.K c W (mCall fm m) σ H Q) : tCallS (spM X.K c.T n fm) (WE W) (liftA X.K c W n m) σ H Q := by
  obtain ⟨l, S, rp, po⟩ := h
  refine ⟨l, S, rp, Po.bind po fun xs S1 vs H1 l1 _ rp1 g1 q1 po1 => ?_⟩
  refine ⟨q1.1.length.trans q1.2, l1, S1.ds, xs, rp1.rt.self, q1.1, ?_⟩
  unfold call at po1
  cases e : fm xs S1.ds with
  | no =>
    rw [e] at po1
    exact po1
  | ok d ds' =>
    rw [e] at po1
    intro v H' l' rt dt
    exact po1 v H' l' (rp1.on rt) rt.gr dt
  | er x ds' =>
    rw [e] at po1
    intro cls dd H' l' rt fl
    exact po1 cls dd H' l' (rp1.on rt) rt.gr fl
theorem le_call {k n : Nat} {x : Str} {fm : Fn} {e : Expr} {es : List Expr} {m : M (List D)} {p pos : Pos} (F : FnM X.prog X.w X.K X.mg X.base c.T k x n fm) (hr : Room k X.A) (gd : X.A.guards = some []) (tk : Takes X W) (ha : LA X c W (e :: es) m) (hn : (e :: es).length = n := by rfl) (hg : Gl X x := by rfl)
    (hdb : (x == ("__debug__" : Str)) = false := by decide) (he : starEach (e :: es) X.env = (false, eval e X.env) :: starEach es X.env := by rfl) (hpl : (backTo pos (starEach es X.env)).any (·.1) = false := by rfl) : LE X c W (.Call (.Name x p) (e :: es) [] pos) (mCall fm m) := by
  subst hn
  obtain ⟨f, hm, hk, F⟩ := F.ex
  refine ⟨fun pins s σ H Q I h => ?_⟩
  refine wpAny_Call_Name_kw (ld_glob I hg hm ?_ hdb)
  refine PySem.W.callWith_K (h₀ := X.base) I.ok.mod.kin hk (thn (PA.run ha pos pins s σ H _ I (call_imp (n := (e :: es).length) h)) fun us s1 ⟨vs, H1, I1, r, q⟩ => ⟨I1.kIn, ?_⟩) he hpl
  exact run_g F hr gd tk I1 r q
end

/-! ### a def's body -/
section
variable {P : Program} {w : World} {K : PySem.W.Frag} {mg : Str → Option Value} {base : Heap} {T : List (Addr × Str)}
theorem start_rep {N : List Str} {l : Lh} {H : Hp} {ds : Option DSt} {vs : List V} {xs : List D} (rt : Ret K T l H l H ds) (da : DtAll K l vs xs) : Rep K ⟨T, l, H, none⟩ l ⟨Lw.start N.length xs, ds⟩ (L2.start N vs) H := by
  have hl := da.length
  have at_ : ∀ (i : Nat) s, (Lw.start N.length xs)[i]? = some (some s) → ∃ d, xs[i]? = some d ∧ s = .d d := fun i s e => by
    unfold Lw.start at e
    by_cases hi : i < xs.length
    · rw [List.getElem?_append_left (by simpa using hi), List.getElem?_map] at e
      cases q : xs[i]? with
      | none =>
        rw [q] at e
        cases e
      | some d =>
        rw [q] at e
        simp at e
        exact ⟨d, rfl, e.symm⟩
    · rw [List.getElem?_append_right (by simpa using Nat.le_of_not_lt hi), List.getElem?_replicate] at e
      split at e <;> simp at e
  refine ⟨rt, by simp [Lw.start, L2.start, hl], fun i x e => ?_, fun i ys e => ?_, fun i j ys zs a n e1 e2 e3 e4 => ?_, fun i k e => by
    obtain ⟨d, e1, e2⟩ := at_ i _ e
    cases e2⟩
  · obtain ⟨d, e1, e2⟩ := at_ i _ e
    cases e2
    obtain ⟨v, e3, dt⟩ := da.get e1
    refine ⟨v, ?_, dt⟩
    unfold L2.start
    have hi : i < vs.length := (List.getElem?_eq_some_iff.mp e3).1
    rw [List.getElem?_append_left (by simpa using hi), List.getElem?_map, e3]
    rfl
  · obtain ⟨d, e1, e2⟩ := at_ i _ e
    cases e2
  · obtain ⟨d, q1, q2⟩ := at_ i _ e1
    cases q2
theorem body_imp {N ps : List Str} {b : M Fl} {vs : List V} {H : Hp} {Q : VK} {E : XK} (h : spM K T ps.length (fnOf N.length ps.length b) vs H Q E) :
    ∃ l, liftS K ⟨T, l, H, none⟩ (fun cls d _ H => E cls d H) b { nx := fun _ H' => Q .non H', rt := Q } (L2.start N vs) H := by
  obtain ⟨hl, l, ds, xs, rt, da, post⟩ := h
  refine ⟨l, l, ⟨Lw.start N.length xs, ds⟩, start_rep rt da, ?_⟩
  have hx : xs.length = ps.length := da.length.symm.trans hl
  unfold fnOf at post
  rw [if_pos hx] at post
  cases e : b ⟨Lw.start N.length xs, ds⟩ with
  | no =>
    rw [e] at post
    exact post
  | er x S' =>
    rw [e] at post
    intro cls dd σ' H' l' rp g f
    exact post cls dd H' l' rp.rt f
  | ok f S' =>
    rw [e] at post
    intro σ' H' l' rp g
    cases f with
    | nx => exact post .non H' l' rp.rt .non
    | rt d => exact fun v dt => post v H' l' rp.rt dt
    | bk => exact post.elim
    | ct => exact post.elim
/-- a def keeps its mirror's promise; its code object is known -/
theorem okMc {x qual : Str} {params : Arguments} {body : List Stmt} {scope : Scope} {f : Addr} {fd : FuncData} {N ps : List Str} {k : Nat} {b : M Fl} (F : FunD K x qual params body scope [] [] f fd) (Sc : FnScope N ps scope)
    (hbd : ∀ (kV doc pm : Value) (an : Option Addr) (cdv ct : Value) (us : List Value), us.length = ps.length → bindArgs (PySem.W.fnOf x qual params body scope .none kV doc pm an cdv ct) ⟨us, []⟩ = pure (ps.zip us))
    (hb : ∀ (cdv : Value) (A : Around) (outer : List Env) (s : Shared) (H : Hp) (E : XK) (c : Pk), c.T = T → A.guards = some [] → Room k (A.deeper (envOfC qual scope s.heap.objs.size f cdv)) →
      (∃ oc od osl kV doc pm an ct dV, K.lookup f = some ⟨oc, od, .func (PySem.W.fnOf x qual params body scope dV kV doc pm an cdv ct), osl⟩) →
      LB (cxOf (L2.CX P w) P w K mg base N qual scope f cdv A outer s H E) c (fun cls d _ H => E cls d H) body b) : FnG P w K mg base T (k + 1) f ps.length (fnOf N.length ps.length b) := by
  intro A outer s H us vs Q E hr gd e0 rv h
  have hl : vs.length = ps.length := h.1
  have hb2 := F.bindsA (ps := ps) hbd s us (by rw [← rv.length]; exact hl)
  obtain ⟨oc, od, dV, kV, doc, pm, an, cdv, ct, osl, rfl, lk, hcd, _, _⟩ := F.ex
  refine LamX.run_ofS (N := N) (ps := ps) lk hcd Sc hr e0 hb2 rv hl fun hr' => ?_
  obtain ⟨l, q⟩ := body_imp (N := N) h
  exact ⟨_, hb cdv A outer s H E ⟨T, l, H, none⟩ rfl gd hr' ⟨_, _, _, _, _, _, _, _, _, lk⟩, q⟩
/-- a def keeps its mirror's promise -/
theorem okM {x qual : Str} {params : Arguments} {body : List Stmt} {scope : Scope} {f : Addr} {fd : FuncData} {N ps : List Str} {k : Nat} {b : M Fl} (F : FunD K x qual params body scope [] [] f fd) (Sc : FnScope N ps scope)
    (hbd : ∀ (kV doc pm : Value) (an : Option Addr) (cdv ct : Value) (us : List Value), us.length = ps.length → bindArgs (PySem.W.fnOf x qual params body scope .none kV doc pm an cdv ct) ⟨us, []⟩ = pure (ps.zip us))
    (hb : ∀ (cdv : Value) (A : Around) (outer : List Env) (s : Shared) (H : Hp) (E : XK) (c : Pk), c.T = T → A.guards = some [] → Room k (A.deeper (envOfC qual scope s.heap.objs.size f cdv)) →
      LB (cxOf (L2.CX P w) P w K mg base N qual scope f cdv A outer s H E) c (fun cls d _ H => E cls d H) body b) : FnG P w K mg base T (k + 1) f ps.length (fnOf N.length ps.length b) := by
  intro A outer s H us vs Q E hr gd e0 rv h
  have hl : vs.length = ps.length := h.1
  have hb2 := F.bindsA (ps := ps) hbd s us (by rw [← rv.length]; exact hl)
  obtain ⟨oc, od, dV, kV, doc, pm, an, cdv, ct, osl, rfl, lk, hcd, _, _⟩ := F.ex
  refine LamX.run_ofS (N := N) (ps := ps) lk hcd Sc hr e0 hb2 rv hl fun hr' => ?_
  obtain ⟨l, q⟩ := body_imp (N := N) h
  exact ⟨_, hb cdv A outer s H E ⟨T, l, H, none⟩ rfl gd hr', q⟩
end
end Lw

set_option linter.all false
/-! Lw: what operators and built-ins do on values. -/
namespace Lw
open PySem

def line : Nat := 16777216
/-- items as often as told -/
def rep {α : Type} (n : Nat) (xs : List α) : List α := (List.replicate n xs).flatten
def dAdd : D → D → Option D
  | .int a, .int b => some (.int (a + b))
  | .lst a, .lst b => if a.length + b.length ≤ line then some (.lst (a ++ b)) else none
  | .tup a, .tup b => if a.length + b.length ≤ line then some (.tup (a ++ b)) else none
  | .str a, .str b => if a.length + b.length ≤ line then some (.str (a ++ b)) else none
  | _, _ => none
def dSub : D → D → Option D
  | .int a, .int b => some (.int (a - b))
  | _, _ => none
/-- bounds are asked of Nat: the kernel counts down from a great literal where an Int is asked -/
def small64 (a : Int) : Bool := decide (a.natAbs < 18446744073709551616)
def dMul : D → D → Option D
  | .int a, .int b => if small64 a || small64 b then some (.int (a * b)) else none
  | .lst a, .int k => if a.length * k.toNat ≤ line ∧ -(2 ^ 63) ≤ k ∧ k < 2 ^ 63 then some (.lst (rep k.toNat a)) else none
  | .tup a, .int k => if a ≠ [] ∧ -10000 ≤ k ∧ k ≤ 10000 ∧ a.length ≤ 1000 then some (.tup (rep k.toNat a)) else none
  | _, _ => none
def dFd : D → D → Option D
  | .int a, .int b => if 0 < b ∧ b.natAbs < 1073741824 then some (.int (a / b)) else none
  | _, _ => none
def dMd : D → D → Option D
  | .int a, .int b => if 0 < b then some (.int (a % b)) else none
  | _, _ => none
def dPw : D → D → Option D
  | .int a, .int b => if 0 ≤ b ∧ b ≤ 1000000 ∧ a.natAbs < 2 ^ 64 then some (.int (a ^ b.toNat)) else none
  | _, _ => none
def dLt : D → D → Option D
  | .int a, .int b => some (.bl (decide (a < b)))
  | _, _ => none
def dLe : D → D → Option D
  | .int a, .int b => some (.bl (decide (a ≤ b)))
  | _, _ => none
def dGt : D → D → Option D
  | .int a, .int b => some (.bl (decide (b < a)))
  | _, _ => none
def dGe : D → D → Option D
  | .int a, .int b => some (.bl (decide (b ≤ a)))
  | _, _ => none
def dNg : D → Option D
  | .int a => some (.int (-a))
  | _ => none
def isNon : D → Bool
  | .non => true
  | _ => false
def dIsN : D → D → Option D
  | a, .non => some (.bl (isNon a))
  | _, _ => none
def dNtN : D → D → Option D
  | a, .non => some (.bl (!isNon a))
  | _, _ => none

/-! ### plain data -/
mutual
def plain : D → Bool
  | .non | .bl _ | .int _ | .str _ => true
  | .tup xs => plainAll xs
  | .lst xs => plainAll xs
  | _ => false
def plainAll : List D → Bool
  | [] => true
  | x :: xs => plain x && plainAll xs
end
mutual
def toP : D → PyData
  | .non => .none
  | .bl b => .bool b
  | .int i => .int i
  | .str x => .str x
  | .tup xs => .tuple (toPs xs)
  | .lst xs => .list (toPs xs)
  | .dct kvs => .dict (toPk kvs)
  | _ => .none
def toPs : List D → List PyData
  | [] => []
  | x :: xs => toP x :: toPs xs
def toPk : List (D × D) → List (PyData × PyData)
  | [] => []
  | (k, v) :: r => (toP k, toP v) :: toPk r
end
def dEq (a b : D) : Option D := if plain a && plain b && SeqAt.shaped (toP a) && SeqAt.shaped (toP b) then some (.bl (PyData.eqv (toP a) (toP b))) else none
def dNe (a b : D) : Option D := if plain a && plain b && SeqAt.shaped (toP a) && SeqAt.shaped (toP b) then some (.bl (!PyData.eqv (toP a) (toP b))) else none
/-! repr of plain data and of dicts in it -/
mutual
def shows : D → Bool
  | .non | .bl _ | .int _ | .str _ => true
  | .tup xs => showsAll xs
  | .lst xs => showsAll xs
  | .dct kvs => showsKv kvs
  | _ => false
def showsAll : List D → Bool
  | [] => true
  | x :: xs => shows x && showsAll xs
def showsKv : List (D × D) → Bool
  | [] => true
  | (k, v) :: r => shows k && shows v && showsKv r
end
/-- what repr takes here -/
def isRef : D → Bool
  | .tup _ | .lst _ | .dct _ | .non | .bl _ | .int _ | .str _ => true
  | _ => false
def dRepr : List D → Option D
  | [a] => if isRef a = true ∧ shows a = true ∧ (toP a).showable = true ∧ (toP a).depth ≤ 50 ∧ (toP a).shown.length ≤ line then some (.str (toP a).shown) else none
  | _ => none

/-! ### sequences -/
def dLen : List D → Option D
  | [.lst xs] => some (.int xs.length)
  | [.tup xs] => some (.int xs.length)
  | [.str x] => if x.length ≤ line then some (.int x.length) else none
  | [.scr ns] => some (.int ns.length)
  | _ => none
def dIx : D → D → Option D
  | .lst xs, .int i => L2.atI xs i
  | .tup xs, .int i => L2.atI xs i
  | .str x, .int i => if x.length ≤ line then (L2.atI x.cps.toList i).map fun c => .str ⟨#[c]⟩ else none
  | _, _ => none
def cut {α : Type} (xs : List α) (lo hi : Option Int) : List α := (xs.drop (HT.sIx xs.length 0 lo)).take (HT.sIx xs.length xs.length hi - HT.sIx xs.length 0 lo)
def dCut (lo hi : Option Int) : D → Option D
  | .lst xs => some (.lst (cut xs lo hi))
  | .tup xs => some (.tup (cut xs lo hi))
  | .scr ns => some (.lst (cut (ns.map .int) lo hi))
  | _ => none
def dBack : D → Option D
  | .lst xs => some (.lst xs.reverse)
  | .tup xs => some (.tup xs.reverse)
  | _ => none
def dList : List D → Option D
  | [.lst xs] => some (.lst xs)
  | [.tup xs] => some (.lst xs)
  | _ => none
def dTuple : List D → Option D
  | [.lst xs] => some (.tup xs)
  | [.tup xs] => some (.tup xs)
  | _ => none
/-- int(n) of a whole number or a truth value -/
def dInt : List D → Option D
  | [.int i] => some (.int i)
  | [.bl b] => some (.int (if b then 1 else 0))
  | _ => none
/-- the numbers of range(a, b) -/
def rg (a b : Int) : List D := (List.range (b - a).toNat).map fun i => .int (a + (i : Nat))
def rgOk (a b : Int) : Bool := decide (a.natAbs < 4611686018427387904) && decide (b.natAbs < 4611686018427387904) && decide ((b - a).toNat ≤ line)
def iRg1 : D → Option (List D)
  | .int b => if rgOk 0 b then some (rg 0 b) else none
  | _ => none
def iRg2 : D → D → Option (List D)
  | .int a, .int b => if rgOk a b then some (rg a b) else none
  | _, _ => none
/-- what a for walks over -/
def items : D → Option (List D)
  | .lst xs => some xs
  | .tup xs => some xs
  | .scr ns => some (ns.map .int)
  | _ => none
def enumF (k : Nat) : List D → List D
  | [] => []
  | x :: xs => .pr [.int k, x] :: enumF (k + 1) xs

/-! ### kinds -/
/-- the built-in class of a value -/
def tyD : D → Option String
  | .non => some "NoneType"
  | .bl _ => some "bool"
  | .int _ => some "int"
  | .str _ => some "str"
  | .tup _ => some "tuple"
  | .lst _ => some "list"
  | .dct _ => some "dict"
  | .scr _ => some "list"
  | _ => none
def subT (a b : String) : Bool := a == b || (a == "bool" && b == "int")
/-- isinstance(x, T) of one of these classes -/
def dIsT (t : String) (d : D) : Option D := (tyD d).map fun a => .bl (subT a t)
def dIsT2 (t u : String) (d : D) : Option D := (tyD d).map fun a => .bl (subT a t || subT a u)
end Lw

set_option Elab.async false
set_option linter.all false
set_option maxRecDepth 100000
set_option maxHeartbeats 4000000
/-! Lw: the operators and built-ins of the machine do what the mirror says. -/
namespace Lw
open PySem PySem.Spec PyProof.Rows L2

section
variable {X : Cx} {c : Pk} {W : WX} {K : PySem.W.Frag}
theorem nt_lst {xs : List V} : NoTbl (.lst xs) := fun _ z => nomatch z
theorem nt_tup {xs : List V} : NoTbl (.tup xs) := fun _ z => nomatch z
theorem gr_upd {l : Lh} {p : Addr} {o : HO} (h : l.L p = none) : Gr l ⟨upd l.L p o, l.wm, l.cl⟩ := ⟨(Ext.refl _).upd h, .inr rfl, [], by simp⟩
/-- a new list, a new tuple is handed back -/
theorem Give.lst {l : Lh} {H : Hp} {Q : VK} {vs : List V} {ds : List D} (g : Give K l H (.lst ds) Q) (h : DtAll K l vs ds) : ∀ p, H p = none → l.L p = none → Q (.ref p) (upd H p (.lst vs)) := fun p hp hl =>
  g.2 p _ hp nt_lst (.lst upd_same (h.grow (gr_upd hl)))
theorem nt_frz {ob : Obj} {xs : List V} : NoTbl (.frz ob (.tup xs)) := fun _ z => nomatch z
theorem Give.tup {l : Lh} {H : Hp} {Q : VK} {vs : List V} {ds : List D} (g : Give K l H (.tup ds) Q) (h : DtAll K l vs ds) : ∀ p ob, H p = none → ob.dict = none → l.L p = none → Q (.ref p) (upd H p (.frz ob (.tup vs))) := fun p ob hp hob hl =>
  g.2 p _ hp nt_frz (.tup (SqN.of upd_same hob) (h.grow (gr_upd hl)))
/-! ### new tuples, known by their objects -/
def rCatZ (K : PySem.W.Frag) : R2 := fun x y H Q => ∃ a b xs ys, x = .ref a ∧ y = .ref b ∧ SqT K H a xs ∧ SqT K H b ys ∧ xs.length + ys.length ≤ sizeLine ∧
  (xs = [] → Q (.ref b) H) ∧ (xs ≠ [] → ys = [] → Q (.ref a) H) ∧ (xs ≠ [] → ys ≠ [] → ∀ p ob, H p = none → ob.dict = none → Q (.ref p) (upd H p (.frz ob (.tup (xs ++ ys)))))
theorem op_catZ : OpR X (binaryOp .Add) (rCatZ X.K) := by
  intro pins s σ H x y v u Q I rx ry ⟨a, b, xs, ys, ex, ey, ha, hb, hz, q0, q1, q2⟩
  subst ex ey
  cases rx
  cases ry
  obtain ⟨its, r1, p1, _⟩ := I.tuple ha
  obtain ⟨its2, r2, p2, _⟩ := I.tuple hb
  by_cases hx : xs = []
  · subst hx
    cases r1
    exact cat_tup0 p1 p2 ⟨.ref b, H, I, rfl, q0 rfl⟩
  · refine HT.cat_tup p1 p2 (fun z => hx (r1.nil_iff.mp z)) (fun z => ⟨.ref a, H, I, rfl, q1 hx (r2.nil_iff.mp z)⟩) (fun z => ?_) (by rw [← r1.length, ← r2.length]; exact hz)
    exact ⟨.ref s.heap.objs.size, _, lay_tup I (r1.append r2) (by rw [List.length_append]; exact hz), rfl, q2 hx (fun w => z (r2.nil_iff.mpr w)) _ _ (I.hok.fresh (Nat.le_refl _)) rfl⟩
def rSlZ (K : PySem.W.Frag) : V → Option Int → Option Int → Hp → VK → Prop := fun x lo hi H Q => ∃ a xs, x = .ref a ∧ SqT K H a xs ∧
  (HT.sIx xs.length 0 lo = 0 ∧ HT.sIx xs.length xs.length hi = xs.length → Q (.ref a) H) ∧ (¬ (HT.sIx xs.length 0 lo = 0 ∧ HT.sIx xs.length xs.length hi = xs.length) → ∀ p ob, H p = none → ob.dict = none → Q (.ref p) (upd H p (.frz ob (.tup (cutV xs lo hi)))))
theorem sl_tupZ : SlR X (rSlZ X.K) := by
  intro pins s σ H x v vl vu lo hi sl Q I rx hs pl pu ⟨a, xs, ex, hx, q1, q2⟩
  subst ex
  cases rx
  obtain ⟨its, r, ht, hz⟩ := I.tuple hx
  have hlen : its.toArray.size = xs.length := by rw [List.size_toArray]; exact r.length.symm
  refine ⟨"tuple", _, PyProof.Rows.slot_tuple_getitem.lookup, ht.typeIs, ?_⟩
  by_cases hw : HT.sIx xs.length 0 lo = 0 ∧ HT.sIx xs.length xs.length hi = xs.length
  · exact getItem_tuple_whole ht hs pl pu (by rw [hlen]; exact hw) ⟨.ref a, H, I, rfl, q1 hw⟩
  · refine HT.getItem_tuple_cut ht hs pl pu (by rw [hlen]; exact hw) ?_ (by rw [hlen]; exact hz)
    rw [hlen]
    exact ⟨.ref s.heap.objs.size, _, lay_tup I ((r.drop (HT.sIx xs.length 0 lo)).take (HT.sIx xs.length xs.length hi - HT.sIx xs.length 0 lo)) (Nat.le_trans (cutV_length xs lo hi) hz), rfl, q2 hw _ _ (I.hok.fresh (Nat.le_refl _)) rfl⟩
def rTupZ (K : PySem.W.Frag) : List V → Hp → VK → Prop := fun xs H Q => ∃ p ys, xs = [.ref p] ∧ ((SqL K H p ys ∧ ∀ l ob, H l = none → ob.dict = none → Q (.ref l) (upd H l (.frz ob (.tup ys)))) ∨ (SqT K H p ys ∧ Q (.ref p) H))
theorem call_tupZ : CallR X (.type "tuple") (rTupZ X.K) := by
  intro pins s σ H xs us Q I r ⟨p, ys, ex, h⟩
  subst ex
  obtain ⟨u, rfl, rx⟩ := vals1 r
  cases rx
  rcases h with ⟨hq, q⟩ | ⟨hq, q⟩
  · obtain ⟨its, r', pl, hz⟩ := I.list hq
    have hlen := r'.length
    refine call_tuple_list pl.isList (fun h' kp => ?_) (by rw [List.size_toArray]; omega)
    have I1 : Inv X pins σ H { s with heap := h' } := I.kept (t' := s.toks) kp
    exact ⟨.ref h'.objs.size, _, lay_tup I1 r' hz, rfl, q _ _ (I1.hok.fresh (Nat.le_refl _)) rfl⟩
  · obtain ⟨its, r', pl, hz⟩ := I.tuple hq
    exact call_tuple_same pl ⟨.ref p, H, I, rfl, q⟩
theorem rep_dt {l : Lh} {vs : List V} {ds : List D} (h : DtAll K l vs ds) : ∀ n, DtAll K l (List.replicate n vs).flatten (rep n ds)
  | 0 => .nil
  | n + 1 => by
    show DtAll K l (List.replicate (n + 1) vs).flatten (List.replicate (n + 1) ds).flatten
    rw [List.replicate_succ, List.replicate_succ, List.flatten_cons, List.flatten_cons]
    exact h.append (rep_dt h n)

/-! ### + - * // % ** -/
def rPlus (K : PySem.W.Frag) : R2 := fun x y H Q => (rI0 (fun i j => .int (i + j)) x y H Q ∨ rCat x y H Q) ∨ (rCatZ K x y H Q ∨ ∃ i j, x = .str i ∧ y = .str j ∧ i.length + j.length ≤ sizeLine ∧ Q (.str (i ++ j)) H)
theorem op_plus : OpR X (binaryOp .Add) (rPlus X.K) := (op_add.or op_cat).or (op_catZ.or op_add_str)
theorem sm_add : Sem2 K dAdd (rPlus K) := by
  intro l H v w a b d Q x ra rb e g
  unfold dAdd at e
  split at e
  · rename_i i j
    cases e
    rw [ra.int, rb.int]
    exact .inl (.inl ⟨i, j, rfl, rfl, g.1 _ (.int _)⟩)
  · rename_i as bs
    split at e
    · rename_i hz
      cases e
      obtain ⟨p, vs, rfl, h1, h2⟩ := ra.lst x
      obtain ⟨q, ws, rfl, h3, h4⟩ := rb.lst x
      refine .inl (.inr ⟨p, q, vs, ws, rfl, rfl, h1, h3, ?_, fun r hr => g.lst (h2.append h4) r hr (x.none hr)⟩)
      rw [h2.length, h4.length, sizeLine_eq]
      exact hz
    · cases e
  · rename_i as bs
    split at e
    · rename_i hz
      cases e
      obtain ⟨p, vs, rfl, h1, h2⟩ := ra.tup x
      obtain ⟨q, ws, rfl, h3, h4⟩ := rb.tup x
      refine .inr (.inl ⟨p, q, vs, ws, rfl, rfl, h1, h3, ?_, fun hn => ?_, fun _ hn => ?_, fun _ _ r ob hr hob => g.tup (h2.append h4) r ob hr hob (x.none hr)⟩)
      · rw [h2.length, h4.length, sizeLine_eq]
        exact hz
      · subst hn
        cases h2
        rcases rb with rb | ⟨_, _, _, _, z, _⟩
        · exact g.1 _ rb
        · cases z
      · subst hn
        cases h4
        rw [List.append_nil] at g
        rcases ra with ra | ⟨_, _, _, _, z, _⟩
        · exact g.1 _ ra
        · cases z
    · cases e
  · rename_i as bs
    split at e
    · rename_i hz
      cases e
      rw [ra.str, rb.str]
      exact .inr (.inr ⟨as, bs, rfl, rfl, by rw [sizeLine_eq]; exact hz, g.1 _ (.str _)⟩)
    · cases e
  · cases e
theorem le_add {a b : Expr} {o p : Opd} {pos : Pos} (ha : LO X c W a o) (hb : LO X c W b p) : LE X c W (.BinOp a .Add b pos) (m2 dAdd o p) := le_bin op_plus sm_add ha hb
theorem sm_int {f : D → D → Option D} {C : Int → Int → Prop} {g : Int → Int → Int} (h : ∀ a b d, f a b = some d → ∃ i j, a = .int i ∧ b = .int j ∧ C i j ∧ d = .int (g i j)) : Sem2 K f (rI C fun i j => .int (g i j)) := by
  intro l H v w a b d Q x ra rb e gv
  obtain ⟨i, j, rfl, rfl, hc, rfl⟩ := h a b d e
  rw [ra.int, rb.int]
  exact ⟨i, j, rfl, rfl, hc, gv.1 _ (.int _)⟩
theorem sm_int0 {f : D → D → Option D} {g : Int → Int → Int} (h : ∀ a b d, f a b = some d → ∃ i j, a = .int i ∧ b = .int j ∧ d = .int (g i j)) : Sem2 K f (rI0 fun i j => .int (g i j)) := by
  intro l H v w a b d Q x ra rb e gv
  obtain ⟨i, j, rfl, rfl, rfl⟩ := h a b d e
  rw [ra.int, rb.int]
  exact ⟨i, j, rfl, rfl, gv.1 _ (.int _)⟩
theorem sm_cmp {f : D → D → Option D} {g : Int → Int → Bool} (h : ∀ a b d, f a b = some d → ∃ i j, a = .int i ∧ b = .int j ∧ d = .bl (g i j)) : Sem2 K f (rI0 fun i j => .bl (g i j)) := by
  intro l H v w a b d Q x ra rb e gv
  obtain ⟨i, j, rfl, rfl, rfl⟩ := h a b d e
  rw [ra.int, rb.int]
  exact ⟨i, j, rfl, rfl, gv.1 _ (.bl _)⟩
theorem le_sub {a b : Expr} {o p : Opd} {pos : Pos} (ha : LO X c W a o) (hb : LO X c W b p) : LE X c W (.BinOp a .Sub b pos) (m2 dSub o p) := le_bin op_sub (sm_int0 fun a b d e => by
  unfold dSub at e
  split at e
  · exact ⟨_, _, rfl, rfl, (Option.some.inj e).symm⟩
  · cases e) ha hb
theorem le_fd {a b : Expr} {o p : Opd} {pos : Pos} (ha : LO X c W a o) (hb : LO X c W b p) : LE X c W (.BinOp a .FloorDiv b pos) (m2 dFd o p) := le_bin op_fdiv (sm_int fun a b d e => by
  unfold dFd at e
  split at e
  · split at e
    · rename_i h
      exact ⟨_, _, rfl, rfl, ⟨h.1, by have := h.2; omega⟩, (Option.some.inj e).symm⟩
    · cases e
  · cases e) ha hb
theorem le_md {a b : Expr} {o p : Opd} {pos : Pos} (ha : LO X c W a o) (hb : LO X c W b p) : LE X c W (.BinOp a .Mod b pos) (m2 dMd o p) := le_bin op_mod (sm_int fun a b d e => by
  unfold dMd at e
  split at e
  · split at e
    · rename_i h
      exact ⟨_, _, rfl, rfl, h, (Option.some.inj e).symm⟩
    · cases e
  · cases e) ha hb
theorem le_pw {a b : Expr} {o p : Opd} {pos : Pos} (ha : LO X c W a o) (hb : LO X c W b p) : LE X c W (.BinOp a .Pow b pos) (m2 dPw o p) := le_bin op_pow (sm_int fun a b d e => by
  unfold dPw at e
  split at e
  · split at e
    · rename_i h
      exact ⟨_, _, rfl, rfl, h, (Option.some.inj e).symm⟩
    · cases e
  · cases e) ha hb
/-- a tuple, many times over: a wider bound than rRepT -/
def rTen (K : PySem.W.Frag) : R2 := fun x y H Q => ∃ l k xs, x = .ref l ∧ y = .int k ∧ SqT K H l xs ∧ xs ≠ [] ∧ (2 ≤ k ∧ k ≤ 10000) ∧ xs.length ≤ 1000 ∧ ∀ p ob, H p = none → ob.dict = none → Q (.ref p) (upd H p (.frz ob (.tup (List.replicate k.toNat xs).flatten)))
theorem op_ten : OpR X (binaryOp .Mult) (rTen X.K) := by
  intro pins s σ H x y v u Q I rx ry ⟨l, k, xs, ex, ey, hT, hne, hk, hz, q⟩
  subst ex ey
  cases rx
  obtain ⟨t, rfl⟩ := ry
  obtain ⟨its, r, ⟨⟨cls, dd, data, sl⟩, ho, hc, n, hd⟩, hs⟩ := I.tuple hT
  dsimp only at hc hd
  subst hc hd
  have hlen := r.length
  have hpos : 0 < its.length := by
    rw [← hlen]
    exact List.length_pos_iff.mpr hne
  have hemp : its.toArray.isEmpty = false := by
    match its, hpos with
    | _ :: _, _ => rfl
  have big : k.toNat * xs.length ≤ 10000000 := Nat.mul_le_mul (by omega : k.toNat ≤ 10000) hz
  have bigI : ((its.toArray.size : Nat) : Int) * k ≤ 10000000 := by
    rw [List.size_toArray, ← hlen, Int.mul_comm]
    have e : k = (k.toNat : Int) := by omega
    rw [e, ← Int.natCast_mul]
    omega
  have flat : k.toNat * xs.length ≤ sizeLine := by
    rw [sizeLine_eq]
    omega
  have c0 : (decide (k < -(2 ^ 63)) || decide (k ≥ 2 ^ 63)) = false := by simp; omega
  have c1 : (its.toArray.isEmpty || k == 1) = false := by rw [hemp]; simp; omega
  have c2 : (decide (k ≤ 0) || its.toArray.isEmpty) = false := by rw [hemp]; simp; omega
  have c4 : Builtin.Tuple.tupleTooMany (((its.toArray.size : Nat) : Int) * k) = false := by
    unfold Builtin.Tuple.tupleTooMany
    rw [sizeLine_eq]
    exact decide_eq_false (by omega)
  have hcall := tuple_mulW l its.toArray n dd sl k t c0 c1 c2 (by omega) c4 (by rw [size_rep, List.size_toArray, PyProof.Rows.lm_len_rep_flat, ← hlen]; exact flat)
  refine wpAny_binaryOp_repeat_ref (T := "tuple") (U := "int") (by decide) ⟨_, ho, rfl⟩ (fun s' => typeIs_int s' k t) noFill_tuple_mul F.fills_int_mul F.slot_int_rmul repeat_tuple F.slot_int_index.lookup ?_
  refine call_meets F.slot_int_rmul (typeIs_int s k t) F.entry_int_rmul (F.args_int_rmul_2 _ _) (int_rmul_tuple k t l its.toArray n dd sl) ⟨ho, rfl, ⟨_, ho, rfl⟩, ?_⟩
  refine call_meets F.slot_tuple_mul ⟨_, ho, rfl⟩ F.entry_tuple_mul (F.args_tuple_mul_2 _ _) hcall ⟨ho, ?_⟩
  rw [size_rep]
  exact ⟨.ref s.heap.objs.size, _, lay_tup I (r.rep k.toNat) (by rw [PyProof.Rows.lm_len_rep_flat]; exact flat), rfl, q _ _ (I.hok.fresh (Nat.le_refl _)) rfl⟩
/-- a tuple once: it is itself -/
theorem mul_once (l : Addr) (xs : Array Value) (n : Nat) (dx : Option Addr) (sl : Array (Option Value)) (u : Tok) :
    Meets (Builtin.«tuple.__mul__» ⟨[.ref l, .int 1 u], []⟩) (fun _ R s => s.heap.get? l = some ⟨.type "tuple", dx, .seq xs n, sl⟩ ∧ R (.ok (.ret (.ref l))) s) := by
  refine .of_wp fun prog w A R s hh => ?_
  obtain ⟨hp, g, d, tk, os⟩ := s
  obtain ⟨hl, k⟩ := hh
  have f1 := AutoSeq1.idx_int
  wp_walk using wpAny_loadPart' hl
  exact ⟨_, rfl, k⟩
/-- a tuple no time -/
theorem mul_never (l : Addr) (xs : Array Value) (n : Nat) (dx : Option Addr) (sl : Array (Option Value)) (x : Int) (u : Tok) (h1 : x ≤ 0) (h2 : -10000 ≤ x) (he : xs.isEmpty = false) :
    Meets (Builtin.«tuple.__mul__» ⟨[.ref l, .int x u], []⟩) (fun _ R s => s.heap.get? l = some ⟨.type "tuple", dx, .seq xs n, sl⟩ ∧ R (.ok (.ret (.ref s.heap.objs.size))) { s with heap := s.heap.push ⟨.type "tuple", none, .seq #[] 0, #[]⟩ }) := by
  refine .of_wp fun prog w A R s hh => ?_
  obtain ⟨hp, g, d, tk, os⟩ := s
  obtain ⟨hl, k⟩ := hh
  have f1 := AutoSeq1.idx_int
  wp_walk using wpAny_loadPart' hl
  refine wpAny_ite_false (by simp; omega) ?_
  wp_walk using wpAny_loadPart' hl
  refine wpAny_ite_false (by rw [he]; simp; omega) ?_
  wp_walk using wpAny_loadPart' hl
  exact ⟨_, rfl, k⟩
def rOnce (K : PySem.W.Frag) : R2 := fun x y H Q => ∃ l xs, x = .ref l ∧ y = .int 1 ∧ SqT K H l xs ∧ Q (.ref l) H
theorem op_once : OpR X (binaryOp .Mult) (rOnce X.K) := by
  intro pins s σ H x y v u Q I rx ry ⟨l, xs, ex, ey, hT, q⟩
  subst ex ey
  cases rx
  obtain ⟨t, rfl⟩ := ry
  obtain ⟨its, r, ⟨⟨cls, dd, data, sl⟩, ho, hc, n, hd⟩, hs⟩ := I.tuple hT
  dsimp only at hc hd
  subst hc hd
  refine wpAny_binaryOp_repeat_ref (T := "tuple") (U := "int") (by decide) ⟨_, ho, rfl⟩ (fun s' => typeIs_int s' 1 t) noFill_tuple_mul F.fills_int_mul F.slot_int_rmul repeat_tuple F.slot_int_index.lookup ?_
  refine call_meets F.slot_int_rmul (typeIs_int s 1 t) F.entry_int_rmul (F.args_int_rmul_2 _ _) (int_rmul_tuple 1 t l its.toArray n dd sl) ⟨ho, rfl, ⟨_, ho, rfl⟩, ?_⟩
  refine call_meets F.slot_tuple_mul ⟨_, ho, rfl⟩ F.entry_tuple_mul (F.args_tuple_mul_2 _ _) (mul_once l its.toArray n dd sl t) ⟨ho, ?_⟩
  exact ⟨.ref l, H, I, rfl, q⟩
def rNever (K : PySem.W.Frag) : R2 := fun x y H Q => ∃ l k xs, x = .ref l ∧ y = .int k ∧ SqT K H l xs ∧ xs ≠ [] ∧ (k ≤ 0 ∧ -10000 ≤ k) ∧ ∀ p ob, H p = none → ob.dict = none → Q (.ref p) (upd H p (.frz ob (.tup [])))
theorem op_never : OpR X (binaryOp .Mult) (rNever X.K) := by
  intro pins s σ H x y v u Q I rx ry ⟨l, k, xs, ex, ey, hT, hne, hk, q⟩
  subst ex ey
  cases rx
  obtain ⟨t, rfl⟩ := ry
  obtain ⟨its, r, ⟨⟨cls, dd, data, sl⟩, ho, hc, n, hd⟩, hs⟩ := I.tuple hT
  dsimp only at hc hd
  subst hc hd
  have hpos : 0 < its.length := by
    rw [← r.length]
    exact List.length_pos_iff.mpr hne
  have hemp : its.toArray.isEmpty = false := by
    match its, hpos with
    | _ :: _, _ => rfl
  refine wpAny_binaryOp_repeat_ref (T := "tuple") (U := "int") (by decide) ⟨_, ho, rfl⟩ (fun s' => typeIs_int s' k t) noFill_tuple_mul F.fills_int_mul F.slot_int_rmul repeat_tuple F.slot_int_index.lookup ?_
  refine call_meets F.slot_int_rmul (typeIs_int s k t) F.entry_int_rmul (F.args_int_rmul_2 _ _) (int_rmul_tuple k t l its.toArray n dd sl) ⟨ho, rfl, ⟨_, ho, rfl⟩, ?_⟩
  refine call_meets F.slot_tuple_mul ⟨_, ho, rfl⟩ F.entry_tuple_mul (F.args_tuple_mul_2 _ _) (mul_never l its.toArray n dd sl k t hk.1 hk.2 hemp) ⟨ho, ?_⟩
  exact ⟨.ref s.heap.objs.size, _, lay_tup (xs := []) (its := []) I .nil (Nat.zero_le _), rfl, q _ _ (I.hok.fresh (Nat.le_refl _)) rfl⟩
def rTimes (K : PySem.W.Frag) : R2 := fun x y H Q => rI CMul (fun i j => .int (i * j)) x y H Q ∨ (rRep x y H Q ∨ (rTen K x y H Q ∨ (rOnce K x y H Q ∨ rNever K x y H Q)))
theorem op_times : OpR X (binaryOp .Mult) (rTimes X.K) := op_mul.or (op_rep.or (op_ten.or (op_once.or op_never)))
theorem small64_ok {a : Int} (h : small64 a = true) : -(2 ^ 64) < a ∧ a < 2 ^ 64 := by
  unfold small64 at h
  have := of_decide_eq_true h
  omega
theorem sm_mul : Sem2 K dMul (rTimes K) := by
  intro l H v w a b d Q x ra rb e g
  unfold dMul at e
  split at e
  · rename_i i j
    split at e
    · rename_i hz
      cases e
      rw [ra.int, rb.int]
      refine .inl ⟨i, j, rfl, rfl, ?_, g.1 _ (.int _)⟩
      rcases Bool.or_eq_true_iff.mp hz with z | z
      · exact .inl (small64_ok z)
      · exact .inr (small64_ok z)
    · cases e
  · rename_i as k
    split at e
    · rename_i hz
      cases e
      obtain ⟨p, vs, rfl, h1, h2⟩ := ra.lst x
      rw [rb.int]
      refine .inr (.inl ⟨p, k, vs, rfl, rfl, h1, hz.2.1, hz.2.2, ?_, fun r hr => g.lst (rep_dt h2 _) r hr (x.none hr)⟩)
      rw [h2.length, sizeLine_eq]
      exact hz.1
    · cases e
  · rename_i as k
    split at e
    · rename_i hz
      cases e
      obtain ⟨p, vs, rfl, h1, h2⟩ := ra.tup x
      rw [rb.int]
      have hn : vs ≠ [] := fun z => by
        subst z
        cases h2
        exact hz.1 rfl
      by_cases k2 : 2 ≤ k
      · exact .inr (.inr (.inl ⟨p, k, vs, rfl, rfl, h1, hn, ⟨k2, hz.2.2.1⟩, by rw [h2.length]; exact hz.2.2.2, fun r ob hr hob => g.tup (rep_dt h2 _) r ob hr hob (x.none hr)⟩))
      · by_cases k1 : k = 1
        · subst k1
          refine .inr (.inr (.inr (.inl ⟨p, vs, rfl, rfl, h1, ?_⟩)))
          have e1 : rep (1 : Int).toNat as = as := by simp [rep]
          rw [e1] at g
          rcases ra with ra | ⟨_, _, _, _, z, _⟩
          · exact g.1 _ ra
          · cases z
        · have e0 : k.toNat = 0 := by omega
          have e1 : rep k.toNat as = [] := by rw [e0]; rfl
          rw [e1] at g
          exact .inr (.inr (.inr (.inr ⟨p, k, vs, rfl, rfl, h1, hn, ⟨by omega, hz.2.1⟩, fun r ob hr hob => g.tup .nil r ob hr hob (x.none hr)⟩)))
    · cases e
  · cases e
theorem le_mul {a b : Expr} {o p : Opd} {pos : Pos} (ha : LO X c W a o) (hb : LO X c W b p) : LE X c W (.BinOp a .Mult b pos) (m2 dMul o p) := le_bin op_times sm_mul ha hb
theorem le_neg {a : Expr} {o : Opd} {pos : Pos} (ha : LO X c W a o) : LE X c W (.UnaryOp .USub a pos) (m1 dNg o) := le_un un_neg (fun l H v a d Q x ra e g => by
  unfold dNg at e
  split at e
  · cases e
    rw [ra.int]
    exact ⟨_, rfl, g.1 _ (.int _)⟩
  · cases e) ha

/-! ### comparisons -/
theorem sm_lt : Sem2 K dLt (rI0 fun i j => .bl (decide (i < j))) := sm_cmp fun a b d e => by
  unfold dLt at e
  split at e
  · exact ⟨_, _, rfl, rfl, (Option.some.inj e).symm⟩
  · cases e
theorem sm_le : Sem2 K dLe (rI0 fun i j => .bl (decide (i ≤ j))) := sm_cmp fun a b d e => by
  unfold dLe at e
  split at e
  · exact ⟨_, _, rfl, rfl, (Option.some.inj e).symm⟩
  · cases e
theorem sm_gt : Sem2 K dGt (rI0 fun i j => .bl (decide (j < i))) := sm_cmp fun a b d e => by
  unfold dGt at e
  split at e
  · exact ⟨_, _, rfl, rfl, (Option.some.inj e).symm⟩
  · cases e
theorem sm_ge : Sem2 K dGe (rI0 fun i j => .bl (decide (j ≤ i))) := sm_cmp fun a b d e => by
  unfold dGe at e
  split at e
  · exact ⟨_, _, rfl, rfl, (Option.some.inj e).symm⟩
  · cases e
theorem isNon_of {l : Lh} {H : Hp} {v : V} {a : D} (r : Rv K l H v a) : decide (v = .non) = isNon a := by
  rcases r with r | ⟨p, vs, ds, rfl, rfl, _, _⟩
  · cases r <;> first | rfl | exact decide_eq_false (fun z => nomatch z)
  · exact decide_eq_false (fun z => nomatch z)
theorem sm_isN : Sem2 K dIsN (fun x y H Q => y = .non ∧ Q (.bl (decide (x = .non))) H) := by
  intro l H v w a b d Q x ra rb e g
  unfold dIsN at e
  split at e
  · cases e
    refine ⟨rb.non, ?_⟩
    rw [isNon_of ra]
    exact g.1 _ (.bl _)
  · cases e
theorem sm_ntN : Sem2 K dNtN (fun x y H Q => y = .non ∧ Q (.bl (!decide (x = .non))) H) := by
  intro l H v w a b d Q x ra rb e g
  unfold dNtN at e
  split at e
  · cases e
    refine ⟨rb.non, ?_⟩
    rw [isNon_of ra]
    exact g.1 _ (.bl _)
  · cases e

/-! ### data: == and != -/
mutual
theorem dp_of {l : Lh} {H : Hp} (x : Ext l.L H) : ∀ {v : V} {d : D}, Dt K l v d → plain d = true → Dp K H v (toP d)
  | _, _, .non, _ => by
    unfold toP
    exact .non
  | _, _, .bl b, _ => by
    unfold toP
    exact .bl b
  | _, _, .int i, _ => by
    unfold toP
    exact .int i
  | _, _, .str i, _ => by
    unfold toP
    exact .str i
  | _, _, .lst h r, e => by
    unfold toP
    unfold plain at e
    exact .lst (SqL.of (x _ _ h)) (dps_of x r e)
  | _, _, .tup h r, e => by
    unfold toP
    unfold plain at e
    exact .tup (x.sqT h.sqT) (dps_of x r e)
  | _, _, .pr .., e => by
    unfold plain at e
    cases e
  | _, _, .dct .., e => by
    unfold plain at e
    cases e
  | _, _, .obj .., e => by
    unfold plain at e
    cases e
  | _, _, .exc0 .., e => by
    unfold plain at e
    cases e
  | _, _, .exc1 .., e => by
    unfold plain at e
    cases e
  | _, _, .dm .., e => by
    unfold plain at e
    cases e
  | _, _, .scr .., e => by
    unfold plain at e
    cases e
theorem dps_of {l : Lh} {H : Hp} (x : Ext l.L H) : ∀ {vs : List V} {ds : List D}, DtAll K l vs ds → plainAll ds = true → DpAll K H vs (toPs ds)
  | _, _, .nil, _ => by
    unfold toPs
    exact .nil
  | _, _, .cons h r, e => by
    unfold toPs
    unfold plainAll at e
    obtain ⟨e1, e2⟩ := Bool.and_eq_true_iff.mp e
    exact .cons (dp_of x h e1) (dps_of x r e2)
end
theorem dp_rv {l : Lh} {H : Hp} {v : V} {d : D} (x : Ext l.L H) (r : Rv K l H v d) (e : plain d = true) : Dp K H v (toP d) := by
  rcases r with r | ⟨p, vs, ds, rfl, rfl, h, q⟩
  · exact dp_of x r e
  · unfold plain at e
    unfold toP
    exact .lst (SqL.of h) (dps_of x q e)
theorem eq_parts {a b c d : Bool} (h : (a && b && c && d) = true) : a = true ∧ b = true ∧ c = true ∧ d = true := by
  revert h
  cases a <;> cases b <;> cases c <;> cases d <;> simp
theorem sm_eq : Sem2 K dEq (rEqD K) := by
  intro l H v w a b d Q x ra rb e g
  unfold dEq at e
  split at e
  · rename_i h
    cases e
    obtain ⟨h1, h2, h3, h4⟩ := eq_parts h
    exact ⟨toP a, toP b, dp_rv x ra h1, dp_rv x rb h2, h3, h4, g.1 _ (.bl _)⟩
  · cases e
theorem sm_ne : Sem2 K dNe (rNeD K) := by
  intro l H v w a b d Q x ra rb e g
  unfold dNe at e
  split at e
  · rename_i h
    cases e
    obtain ⟨h1, h2, h3, h4⟩ := eq_parts h
    exact ⟨toP a, toP b, dp_rv x ra h1, dp_rv x rb h2, h3, h4, g.1 _ (.bl _)⟩
  · cases e

/-! ### subscripts, slices -/
theorem atI_dt {l : Lh} {vs : List V} {ds : List D} {i : Int} {d : D} (h : DtAll K l vs ds) (e : atI ds i = some d) : ∃ v, atI vs i = some v ∧ Dt K l v d := by
  unfold atI at e ⊢
  rw [h.length]
  cases q : ixN ds.length i with
  | none =>
    rw [q] at e
    cases e
  | some j =>
    rw [q] at e
    obtain ⟨v, h1, h2⟩ := h.get e
    exact ⟨v, h1, h2⟩
theorem sm_ix : Sem2 K dIx (rIx K) := by
  intro l H v w a b d Q x ra rb e g
  unfold dIx at e
  split at e
  · obtain ⟨p, vs, rfl, h1, h2⟩ := ra.lst x
    obtain ⟨u, h3, h4⟩ := atI_dt h2 e
    rw [rb.int]
    exact .inl ⟨p, vs, _, u, rfl, rfl, SqL.of h1, h3, g.1 _ h4⟩
  · obtain ⟨p, vs, rfl, h1, h2⟩ := ra.tup x
    obtain ⟨u, h3, h4⟩ := atI_dt h2 e
    rw [rb.int]
    exact .inr (.inl ⟨p, vs, _, u, rfl, rfl, h1, h3, g.1 _ h4⟩)
  · rename_i z i
    split at e
    · rename_i hz
      cases q : atI z.cps.toList i with
      | none =>
        rw [q] at e
        cases e
      | some u =>
        rw [q] at e
        cases e
        rw [ra.str, rb.int]
        exact .inr (.inr ⟨z, i, u, rfl, rfl, by rw [sizeLine_eq]; exact hz, q, g.1 _ (.str _)⟩)
    · cases e
  · cases e
theorem le_ix {a b : Expr} {o p : Opd} {pos : Pos} (ha : LO X c W a o) (hb : LO X c W b p) (hs : PlainIx b := by exact fun _ _ => rfl) : LE X c W (.Subscript a b pos) (m2 dIx o p) :=
  le_m2 (t := tOp (rIx X.K)) (fun h1 h2 => pe_ix ix_seq h1 h2 hs) sm_ix ha hb
theorem cut_dt {l : Lh} {vs : List V} {ds : List D} (h : DtAll K l vs ds) (lo hi : Option Int) : DtAll K l (cutV vs lo hi) (cut ds lo hi) := by
  unfold cutV cut
  rw [h.length]
  exact (h.drop _).take _
/-- the ends of a slice: none, or a whole number -/
def mPart : Option (M D) → M (Option Int)
  | none => ret none
  | some m => bnd m fun d => match d with
    | .int i => ret (some i)
    | _ => stuck
def mCut (o : Opd) (lo hi : Option (M D)) : M D := bnd o.ev fun x => bnd (mPart lo) fun i => bnd (mPart hi) fun j => bnd (o.rd x) fun a => opt (dCut i j a)
structure LP (X : Cx) (c : Pk) (W : WX) (e : Option Expr) (m : Option (M D)) : Prop where
  run : PO X e (liftG X.K c W (fun _ _ a b => a = b) (mPart m))
theorem lp_none : LP X c W none none := ⟨⟨fun pins s σ H Q I ⟨l, S, rp, po⟩ => po_none.run pins s σ H Q I (po none H l rp (Gr.refl _) rfl)⟩⟩
theorem lp_some {e : Expr} {m : M D} (h : LE X c W e m) : LP X c W (some e) (some m) := ⟨⟨fun pins s σ H Q I ⟨l, S, rp, po⟩ => (po_some h).run pins s σ H Q I ⟨l, S, rp, Po.bind (R := Dt X.K) po fun d S1 v H1 l1 _ rp1 g1 q1 po1 => by
  cases q1 with
  | int i => exact ⟨i, rfl, po1 (some i) H1 l1 rp1 (Gr.refl _) rfl⟩
  | _ => exact po1.elim⟩⟩⟩
def rCut (K : PySem.W.Frag) : V → Option Int → Option Int → Hp → VK → Prop := fun x lo hi H Q => rSlL K x lo hi H Q ∨ rSlZ K x lo hi H Q
theorem Rv.scr {l : Lh} {H : Hp} {v : V} {ns : List Int} (x : Ext l.L H) (h : Rv K l H v (.scr ns)) : ∃ a, v = .ref a ∧ SqL K H a (ns.map V.int) := by
  rcases h with h | ⟨a, vs, ds', rfl, e, h1, h2⟩
  · cases h with
    | scr h1 => exact ⟨_, rfl, x.sqL h1⟩
  · cases e
theorem le_cut {e : Expr} {lo hi : Option Expr} {o : Opd} {ml mh : Option (M D)} {p2 pos : Pos} (he : LO X c W e o) (hl : LP X c W lo ml) (hh : LP X c W hi mh) : LE X c W (.Subscript e (.Slice lo hi none p2) pos) (mCut o ml mh) :=
  PE.imp (pe_slice (r := rCut X.K) (sl_list.or sl_tupZ) he hl.run hh.run) fun σ H Q ⟨l, S, rp, po⟩ => by
    refine ⟨l, S, rp, Po.bind (R := RO X.K σ o) po fun x S1 v H1 l1 _ rp1 g1 q1 po1 => ?_⟩
    refine ⟨l1, S1, rp1, Po.bind (R := fun _ a b => a = b) po1 fun i S2 i' H2 l2 _ rp2 g2 q2 po2 => ?_⟩
    subst q2
    refine ⟨l2, S2, rp2, Po.bind (R := fun _ a b => a = b) po2 fun j S3 j' H3 l3 _ rp3 g3 q3 po3 => ?_⟩
    subst q3
    obtain ⟨da, ra, po4⟩ := Po.rd rp3 (Gr.refl _) ((q1.grow g2).grow g3) po3
    obtain ⟨d, e, po5⟩ := Po.opt po4
    have g := po5.give rp3
    have x := rp3.rt.lh
    cases da with
    | lst ds =>
      cases e
      obtain ⟨p, vs, rfl, h1, h2⟩ := ra.lst x
      exact .inl ⟨p, vs, rfl, SqL.of h1, fun r hr => g.lst (cut_dt h2 _ _) r hr (x.none hr)⟩
    | tup ds =>
      cases e
      obtain ⟨p, vs, rfl, h1, h2⟩ := ra.tup x
      refine .inr ⟨p, vs, rfl, h1, fun hw => ?_, fun _ r ob hr hob => g.tup (cut_dt h2 _ _) r ob hr hob (x.none hr)⟩
      have e : cut ds i' j' = ds := by
        unfold cut
        rw [h2.length] at hw
        rw [hw.1, hw.2]
        simp
      rw [e] at g
      rcases ra with ra | ⟨_, _, _, _, z, _⟩
      · exact g.1 _ ra
      · cases z
    | scr ns =>
      cases e
      obtain ⟨p, rfl, h1⟩ := ra.scr x
      exact .inl ⟨p, ns.map V.int, rfl, h1, fun r hr => g.lst (cut_dt (DtAll.ints ns) _ _) r hr (x.none hr)⟩
    | _ => cases e

/-! ### built-ins -/
theorem RvAll.one {l : Lh} {H : Hp} {vs : List V} {a : D} (h : RvAll K l H vs [a]) : ∃ v, vs = [v] ∧ Rv K l H v a := by
  cases h with
  | cons r t =>
    cases t
    exact ⟨_, rfl, r⟩
theorem RvAll.two {l : Lh} {H : Hp} {vs : List V} {a b : D} (h : RvAll K l H vs [a, b]) : ∃ v w, vs = [v, w] ∧ Rv K l H v a ∧ Rv K l H w b := by
  cases h with
  | cons r t =>
    cases t with
    | cons r2 t2 =>
      cases t2
      exact ⟨_, _, rfl, r, r2⟩
theorem sm_len : SemB K dLen (fun xs H Q => ∃ x n, xs = [x] ∧ LenV K x H n ∧ Q (.int n) H) := by
  intro l H vs as d Q x r e g
  unfold dLen at e
  split at e
  · cases e
    obtain ⟨v, rfl, rr⟩ := r.one
    obtain ⟨p, ws, rfl, h1, h2⟩ := rr.lst x
    exact ⟨_, ws.length, rfl, .inl ⟨ws, SqL.of h1, rfl⟩, by rw [h2.length]; exact g.1 _ (.int _)⟩
  · cases e
    obtain ⟨v, rfl, rr⟩ := r.one
    obtain ⟨p, ws, rfl, h1, h2⟩ := rr.tup x
    exact ⟨_, ws.length, rfl, .inr ⟨ws, h1, rfl⟩, by rw [h2.length]; exact g.1 _ (.int _)⟩
  · rename_i z
    split at e
    · rename_i hz
      cases e
      obtain ⟨v, rfl, rr⟩ := r.one
      rw [rr.str]
      exact ⟨_, z.length, rfl, ⟨by rw [sizeLine_eq]; exact hz, rfl⟩, g.1 _ (.int _)⟩
    · cases e
  · rename_i ns
    cases e
    obtain ⟨v, rfl, rr⟩ := r.one
    obtain ⟨p, rfl, h1⟩ := rr.scr x
    exact ⟨_, (ns.map V.int).length, rfl, .inl ⟨_, h1, rfl⟩, by rw [List.length_map]; exact g.1 _ (.int _)⟩
  · cases e
theorem le_len {a : Expr} {o : Opd} {p pos : Pos} (hm : X.mg "len" = none) (ha : LO X c W a o) (hg : Gl X "len" := by rfl) (he : starEach [a] X.env = (false, eval a X.env) :: starEach [] X.env := by rfl) : LE X c W (.Call (.Name "len" p) [a] [] pos) (mBi dLen [o]) :=
  le_blt (id := "len") call_len sm_len hm (los_cons ha los_nil he) hg boot_len (hst := he)
theorem sm_list : SemB K dList (fun xs H Q => ∃ p ys, xs = [.ref p] ∧ (SqL K H p ys ∨ SqT K H p ys) ∧ ∀ l, H l = none → Q (.ref l) (upd H l (.lst ys))) := by
  intro l H vs as d Q x r e g
  unfold dList at e
  split at e
  · cases e
    obtain ⟨v, rfl, rr⟩ := r.one
    obtain ⟨p, ws, rfl, h1, h2⟩ := rr.lst x
    exact ⟨_, ws, rfl, .inl (SqL.of h1), fun q hq => g.lst h2 q hq (x.none hq)⟩
  · cases e
    obtain ⟨v, rfl, rr⟩ := r.one
    obtain ⟨p, ws, rfl, h1, h2⟩ := rr.tup x
    exact ⟨_, ws, rfl, .inr h1, fun q hq => g.lst h2 q hq (x.none hq)⟩
  · cases e
theorem le_list {a : Expr} {o : Opd} {p pos : Pos} (hm : X.mg "list" = none) (ha : LO X c W a o) (hg : Gl X "list" := by rfl) (he : starEach [a] X.env = (false, eval a X.env) :: starEach [] X.env := by rfl) : LE X c W (.Call (.Name "list" p) [a] [] pos) (mBi dList [o]) :=
  le_bty (T := "list") call_list_of sm_list hm (los_cons ha los_nil he) hg (hst := he)
theorem sm_tuple : SemB K dTuple (rTupZ K) := by
  intro l H vs as d Q x r e g
  unfold dTuple at e
  split at e
  · cases e
    obtain ⟨v, rfl, rr⟩ := r.one
    obtain ⟨p, ws, rfl, h1, h2⟩ := rr.lst x
    exact ⟨_, ws, rfl, .inl ⟨SqL.of h1, fun q ob hq hob => g.tup h2 q ob hq hob (x.none hq)⟩⟩
  · cases e
    obtain ⟨v, rfl, rr⟩ := r.one
    obtain ⟨p, ws, rfl, h1, h2⟩ := id (rr.tup x)
    refine ⟨_, ws, rfl, .inr ⟨h1, ?_⟩⟩
    rcases rr with rr | ⟨_, _, _, _, z, _⟩
    · exact g.1 _ rr
    · cases z
  · cases e
theorem le_tuple {a : Expr} {o : Opd} {p pos : Pos} (hm : X.mg "tuple" = none) (ha : LO X c W a o) (hg : Gl X "tuple" := by rfl) (he : starEach [a] X.env = (false, eval a X.env) :: starEach [] X.env := by rfl) : LE X c W (.Call (.Name "tuple" p) [a] [] pos) (mBi dTuple [o]) :=
  le_bty (T := "tuple") call_tupZ sm_tuple hm (los_cons ha los_nil he) hg (hst := he)
theorem sm_int1 : SemB K dInt (fun xs H Q => (∃ i, xs = [.int i] ∧ Q (.int i) H) ∨ ∃ k, xs = [.bl k] ∧ Q (.int (if k then 1 else 0)) H) := by
  intro l H vs as d Q x r e g
  unfold dInt at e
  split at e
  · cases e
    obtain ⟨v, rfl, rr⟩ := r.one
    rw [rr.int]
    exact .inl ⟨_, rfl, g.1 _ (.int _)⟩
  · cases e
    obtain ⟨v, rfl, rr⟩ := r.one
    rw [rr.bl]
    exact .inr ⟨_, rfl, g.1 _ (.int _)⟩
  · cases e
theorem le_int1 {a : Expr} {o : Opd} {p pos : Pos} (hm : X.mg "int" = none) (ha : LO X c W a o) (hg : Gl X "int" := by rfl) (he : starEach [a] X.env = (false, eval a X.env) :: starEach [] X.env := by rfl) : LE X c W (.Call (.Name "int" p) [a] [] pos) (mBi dInt [o]) :=
  le_bty (T := "int") call_int1 sm_int1 hm (los_cons ha los_nil he) hg (hst := he)
end
end Lw

set_option Elab.async false
set_option linter.all false
set_option maxRecDepth 100000
set_option maxHeartbeats 4000000
/-! Lw: what is walked; comprehensions. -/
namespace PySem
open AutoSeq1 (wpAny_loadPart')
/-! ### enumerate(t), t a tuple -/
theorem lw_enum_new (t : Addr) (items : Array Value) (n : Nat) (dct : Option Addr) (sl : Array (Option Value)) : Meets (Builtin.«enumerate.__new__» ⟨[.type "enumerate", .ref t], []⟩) (fun _ R s =>
    s.heap.get? t = some { cls := .type "tuple", dict := dct, data := .seq items n, slots := sl } ∧ R (.ok (.ret (.ref (s.heap.push { cls := .type "tuple_iterator", data := .fields #[.ref t, .int 0 0] }).objs.size)))
      { s with heap := (s.heap.push { cls := .type "tuple_iterator", data := .fields #[.ref t, .int 0 0] }).push { cls := .type "enumerate", data := .fields #[.none, .bool false, .ref s.heap.objs.size, rawInt 0, .none, .none] } }) :=
  Meets.of_wp fun prog w A R s h => by
    obtain ⟨hp, gs, dr, tk, os⟩ := s
    obtain ⟨ht, h⟩ := h
    have sub := sub_enumerate
    have hT : Heap.IsTuple (Shared.heap ⟨hp, gs, dr, tk, os⟩) t items := ⟨_, ht, rfl, n, rfl⟩
    wp_walk using wpAny_loadPart' ht
    refine wpAny_stack_any fun st => wpAny_pure ?_
    split
    · rename_i cc _ _ _ _ _
      cases (cc == Value.type "enumerate") <;> (wp_walk using wpAny_loadPart' ht, wpAny_pyIter_tuple hT; exact ⟨_, rfl, h⟩)
    · wp_walk using wpAny_loadPart' ht, wpAny_pyIter_tuple hT
      exact ⟨_, rfl, h⟩
theorem lw_enum_call {prog : Program} {w : World} {A : Around} {E : Value → Shared → Prop} {s : Shared} {t : Addr} {items : Array Value} {Q : Value → Shared → Prop} (hT : s.heap.IsTuple t items)
    (h : ∀ h', IsEnum h' (s.heap.objs.size + 1) s.heap.objs.size 0 .none → h'.IsTupleIter s.heap.objs.size t 0 → (∀ b o, s.heap.get? b = some o → h'.get? b = some o) → Q (.ref (s.heap.objs.size + 1)) { s with heap := h' }) :
    wpAny (model prog w) A (call (.type "enumerate") [.ref t]) Q E s := by
  obtain ⟨⟨cc, dct, dt, sl⟩, ht, hc, n, hd⟩ := hT
  have hc : cc = .type "tuple" := hc
  have hd : dt = .seq items n := hd
  subst hc hd
  refine callType_new F.called_enumerate (by decide) (F.typeCall_enumerate_1 _) (F.newCall_enumerate_1 _) (fun obj => F.args_object_init_2 obj _) F.entry_enumerate_new (lw_enum_new t items n dct sl) ⟨ht, ?_⟩
  have z : (s.heap.push { cls := .type "tuple_iterator", data := .fields #[.ref t, .int 0 0] }).objs.size = s.heap.objs.size + 1 := Heap.size_push ..
  have at_ := Heap.get?_push_size (s.heap.push { cls := .type "tuple_iterator", data := .fields #[.ref t, .int 0 0] }) (o := { cls := .type "enumerate", data := .fields #[.none, .bool false, .ref s.heap.objs.size, rawInt 0, .none, .none] }) rfl
  rw [z] at at_
  show _ ∧ _
  rw [z]
  exact ⟨⟨_, at_, rfl⟩, h _ at_ ⟨_, Heap.get?_push_of_some _ (Heap.get?_push_size _ rfl), rfl, rfl⟩ fun b o x => Heap.get?_push_of_some _ (Heap.get?_push_of_some _ x)⟩
end PySem
namespace Lw
open PySem PySem.Spec PyProof.Rows L2

section
variable {X : Cx} {c : Pk} {W : WX} {K : PySem.W.Frag}
/-- what is walked is a value: from its reading to the walk's -/
theorem li_of {tg e e0 : Expr} {m : M D} {f : D → Option (List D)} (he : LE X c W e0 m)
    (step : ∀ (pins : List (Addr × Obj)) (s : Shared) (σ : L2.St) (H : Hp) (R : It → Hp → Prop) (t : TE), PE X e0 t → Inv X pins σ H s →
      (∀ Q : VK, (∀ x H1, (∃ l1 d xs, Ext l1.L H1 ∧ Dt X.K l1 x d ∧ f d = some xs ∧ ∀ J, Wk X.K l1 J xs → R J H1) → Q x H1) → t σ H Q) →
      wpAny (model X.prog X.w) X.A (eval e X.env) (fun v s1 => wpAny (model X.prog X.w) X.A (pyIter v) (PIE X pins σ tg R) X.xe s1) X.xe s) : LI X c W tg e (bnd m fun a => opt (f a)) :=
  ⟨fun pins s σ H R I ⟨l, S, rp, po⟩ => step pins s σ H R _ he I fun Q imp => ⟨l, S, rp, by
    cases e : m S with
    | no =>
      rw [bnd_no e] at po
      exact po
    | er x S1 =>
      rw [bnd_er e] at po
      exact po
    | ok d S1 =>
      rw [bnd_ok e] at po
      intro v H1 l1 rp1 g1 dt
      cases q : f d with
      | none =>
        rw [q] at po
        exact po.elim
      | some xs =>
        rw [q] at po
        exact imp v H1 ⟨l1, d, xs, rp1.rt.lh, dt, q, fun J wk => po J H1 l1 rp1 g1 wk⟩⟩⟩
theorem wk_list {l : Lh} {a : Addr} {vs : List V} {ds : List D} (h : l.L a = some (.lst vs)) (hd : DtAll K l vs ds) (hz : ds.length ≤ sizeLine) : Wk K l (Itl K a) ds := by
  refine ⟨hz, fun H => SqL K H a vs, YAt vs, ?_, fun H x => SqL.of (x _ _ h), fun i H x H1 l1 hi g1 x1 y => ?_⟩
  · rw [← hd.length]
    exact walk_list
  · obtain ⟨e1, e2⟩ := y
    obtain ⟨d, e3, dt⟩ := hd.getV e2
    exact ⟨d, e3, .inl ⟨e1, dt.grow g1⟩⟩
theorem wk_tup {l : Lh} {a : Addr} {vs : List V} {ds : List D} (h : SqT K l.L a vs) (hd : DtAll K l vs ds) (hz : ds.length ≤ sizeLine) : Wk K l (Itt K a) ds := by
  refine ⟨hz, fun H => SqT K H a vs, YAt vs, ?_, fun H x => x.sqT h, fun i H x H1 l1 hi g1 x1 y => ?_⟩
  · rw [← hd.length]
    exact walk_tup
  · obtain ⟨e1, e2⟩ := y
    obtain ⟨d, e3, dt⟩ := hd.getV e2
    exact ⟨d, e3, .inl ⟨e1, dt.grow g1⟩⟩
theorem wk_scr {l : Lh} {a : Addr} {ns : List Int} (h : SqL K l.L a (ns.map V.int)) (hz : ns.length ≤ sizeLine) : Wk K l (Itl K a) (ns.map D.int) := by
  have hd : DtAll K l (ns.map V.int) (ns.map D.int) := DtAll.ints ns
  refine ⟨by rw [List.length_map]; exact hz, fun H => SqL K H a (ns.map V.int), YAt (ns.map V.int), ?_, fun H x => x.sqL h, fun i H x H1 l1 hi g1 x1 y => ?_⟩
  · rw [← hd.length]
    exact walk_list
  · obtain ⟨e1, e2⟩ := y
    obtain ⟨d, e3, dt⟩ := hd.getV e2
    exact ⟨d, e3, .inl ⟨e1, dt.grow g1⟩⟩
/-- for x in a list, a tuple, the script -/
theorem li_seq {tg e : Expr} {m : M D} (he : LE X c W e m) : LI X c W tg e (bnd m fun a => opt (items a)) := li_of he fun pins s σ H R t ht I h => by
  refine thn (ht.run pins s σ H _ I (h _ fun _ _ z => z)) fun u s1 ⟨x, H1, I1, rx, l1, d, xs, x1, dt, ef, k⟩ => ?_
  have go : ∀ (a it : Addr) (tn : Nat → Heap → Prop) (J : It) (o : Obj), o.isFreed = false → it = s1.heap.objs.size → Turn X.prog X.w X.K tg J [it] it tn → tn 0 (s1.heap.push o) → R J H1 → PIE X pins σ tg R (.ref it) { s1 with heap := s1.heap.push o } := by
    intro a it tn J o _ hit tu t0 q
    subst hit
    refine ⟨_, [s1.heap.objs.size], tn, J, H1, rfl, I1.kept (t' := s1.toks) fun b o e => Heap.get?_push_of_some _ e, tu, t0, fun b hb => ?_, q⟩
    have e : b = s1.heap.objs.size := by simpa using hb
    subst e
    exact I1.fpOk (Nat.le_refl _) (I1.hok.fresh (Nat.le_refl _))
  cases dt with
  | @lst a vs ds h1 h2 =>
    cases ef
    cases rx
    obtain ⟨its, rv, p, hz⟩ := I1.list (SqL.of (x1 _ _ h1))
    exact wpAny_pyIter_list p.isList (go a _ _ _ _ rfl rfl (turn_list a _) ⟨_, Heap.get?_push_size _ rfl, rfl, rfl⟩ (k _ (wk_list h1 h2 (by rw [← h2.length]; exact hz))))
  | @tup a vs ds h0 h2 =>
    have h1 := h0.sqT
    cases ef
    cases rx
    obtain ⟨its, rv, p, hz⟩ := I1.tuple (x1.sqT h1)
    exact wpAny_pyIter_tuple (show s1.heap.IsTuple a its.toArray from p) (go a _ _ _ _ rfl rfl (turn_tuple a _) ⟨_, Heap.get?_push_size _ rfl, rfl, rfl⟩ (k _ (wk_tup h1 h2 (by rw [← h2.length]; exact hz))))
  | @scr a ns h1 =>
    cases ef
    cases rx
    obtain ⟨its, rv, p, hz⟩ := I1.list (x1.sqL h1)
    rw [List.length_map] at hz
    exact wpAny_pyIter_list p.isList (go a _ _ _ _ rfl rfl (turn_list a _) ⟨_, Heap.get?_push_size _ rfl, rfl, rfl⟩ (k _ (wk_scr h1 hz)))
  | _ => cases ef

/-! ### range -/
theorem rg_get (a b : Int) (i : Nat) (h : i < (b - a).toNat) : (rg a b)[i]? = some (.int (a + (i : Nat))) := by
  unfold rg
  rw [List.getElem?_map, List.getElem?_range h]
  rfl
theorem rg_len (a b : Int) : (rg a b).length = (b - a).toNat := by simp [rg]
theorem wk_rg {l : Lh} {a b : Int} (hz : (b - a).toNat ≤ line) : Wk K l (Itr a (b - a).toNat) (rg a b) := by
  refine ⟨by rw [rg_len, sizeLine_eq]; exact hz, fun _ => True, YFn fun i => .int (a + (i : Nat)), ?_, fun _ _ => trivial, fun i H x H1 l1 hi g1 x1 y => ?_⟩
  · rw [rg_len]
    exact walk_range
  · obtain ⟨e1, e2⟩ := y
    rw [rg_len] at hi
    rw [e2]
    exact ⟨_, rg_get a b i hi, .inl ⟨e1, .int _⟩⟩
theorem rgOk_of {a b : Int} (h : rgOk a b = true) : -(2 ^ 62) ≤ a ∧ a < 2 ^ 62 ∧ -(2 ^ 62) ≤ b ∧ b < 2 ^ 62 ∧ (b - a).toNat ≤ line := by
  unfold rgOk at h
  simp only [Bool.and_eq_true, decide_eq_true_eq] at h
  exact ⟨by omega, by omega, by omega, by omega, h.2⟩
def mRg1 (m : M D) : M (List D) := bnd m fun a => opt (iRg1 a)
def mRg2 (m n : M D) : M (List D) := bnd m fun a => bnd n fun b => opt (iRg2 a b)
theorem li_rg1 {tg a : Expr} {m : M D} {p pos : Pos} (hm : X.mg "range" = none) (ha : LE X c W a m) (hg : Gl X "range" := by rfl) (hs : starEach [a] X.env = [(false, eval a X.env)] := by rfl) : LI X c W tg (.Call (.Name "range" p) [a] [] pos) (mRg1 m) :=
  li_of ha fun pins s σ H R t ht I h => (pi_range1 hg hm (pa_cons ht pa_nil hs) hs).run pins s σ H R I (by
    refine h _ fun x H1 ⟨l1, d, xs, x1, dt, ef, k⟩ => ?_
    cases dt with
    | int b =>
      have ef : (if rgOk 0 b then some (rg 0 b) else none) = some xs := ef
      split at ef
      · rename_i q
        cases ef
        obtain ⟨_, _, h3, h4, h5⟩ := rgOk_of q
        refine ⟨b, rfl, h3, h4, ?_⟩
        have := k _ (wk_rg (K := X.K) (l := l1) (a := 0) (b := b) h5)
        simpa using this
      · cases ef
    | _ => cases ef)
theorem li_rg2 {tg a b : Expr} {m n : M D} {p pos : Pos} (hm : X.mg "range" = none) (ha : LE X c W a m) (hb : LE X c W b n) (hg : Gl X "range" := by rfl) (hs : starEach [a, b] X.env = [(false, eval a X.env), (false, eval b X.env)] := by rfl) (hs2 : starEach [b] X.env = [(false, eval b X.env)] := by rfl) :
    LI X c W tg (.Call (.Name "range" p) [a, b] [] pos) (mRg2 m n) :=
  ⟨fun pins s σ H R I ⟨l, S, rp, po⟩ => (pi_range2 (X := X) hg hm (pa_cons ha (pa_cons hb pa_nil hs2) (hs.trans (by rw [hs2]))) hs hs2).run pins s σ H R I (by
    refine ⟨l, S, rp, ?_⟩
    have po : match bnd m (fun a => bnd n fun b => opt (iRg2 a b)) S with
      | .ok xs S' => ∀ J H' l', Rep X.K c l' S' σ H' → Gr l l' → Wk X.K l' J xs → R J H'
      | .er x S' => ∀ cls dd H' l', Rep X.K c l' S' σ H' → Gr l l' → Fly X.K l' cls dd x → W cls dd σ H'
      | .no => False := po
    cases e : m S with
    | no =>
      rw [bnd_no e] at po
      exact po
    | er x S1 =>
      rw [bnd_er e] at po
      exact po
    | ok d S1 =>
      rw [bnd_ok e] at po
      intro v H1 l1 rp1 g1 dt
      refine ⟨l1, S1, rp1, ?_⟩
      cases e2 : n S1 with
      | no =>
        rw [bnd_no e2] at po
        exact po
      | er x S2 =>
        rw [bnd_er e2] at po
        exact fun cls dd H' l' rp' g' f => po cls dd H' l' rp' (g1.trans g') f
      | ok d2 S2 =>
        rw [bnd_ok e2] at po
        intro v2 H2 l2 rp2 g2 dt2
        cases dt with
        | int i =>
          cases dt2 with
          | int j =>
            by_cases q : rgOk i j = true
            · have e3 : opt (iRg2 (.int i) (.int j)) S2 = .ok (rg i j) S2 := by
                show opt (if rgOk i j then some (rg i j) else none) S2 = _
                rw [if_pos q]
                rfl
              rw [e3] at po
              obtain ⟨h1, h2, h3, h4, h5⟩ := rgOk_of q
              exact ⟨i, j, rfl, ⟨h1, h2, h3, h4⟩, po _ H2 l2 rp2 (g1.trans g2) (wk_rg h5)⟩
            · have e3 : opt (iRg2 (.int i) (.int j)) S2 = .no := by
                show opt (if rgOk i j then some (rg i j) else none) S2 = _
                rw [if_neg q]
                rfl
              rw [e3] at po
              exact po.elim
          | _ => exact po.elim
        | _ => exact po.elim)⟩

/-! ### enumerate -/
theorem enumF_get (xs : List D) : ∀ (k i : Nat) (x : D), xs[i]? = some x → (enumF k xs)[i]? = some (.pr [.int ((k + i : Nat) : Int), x]) := by
  induction xs with
  | nil => intro k i x h; simp at h
  | cons y ys ih =>
    intro k i x h
    cases i with
    | zero =>
      simp at h
      subst h
      simp [enumF]
    | succ i =>
      have h : ys[i]? = some x := by simpa using h
      have := ih (k + 1) i x h
      show (enumF (k + 1) ys)[i]? = _
      rw [this]
      congr 4
      omega
theorem enumF_len (xs : List D) : ∀ k : Nat, (enumF k xs).length = xs.length := by
  induction xs with
  | nil => intro k; rfl
  | cons y ys ih => intro k; simp [enumF, ih]
/-- the items of a list or tuple -/
def seqI : D → Option (List D)
  | .lst xs => some xs
  | .tup xs => some xs
  | .scr ns => some (ns.map .int)
  | _ => none
def iEn (d : D) : Option (List D) := (seqI d).map (enumF 0)
/-- the tuple at a, each item in a new pair -/
def Iet (K : PySem.W.Frag) (a : Addr) : It :=
  ⟨fun i H => ∃ (xs : List V) (x : V), SqT K H a xs ∧ xs[i]? = some x, fun i H v H' => ∃ T x, v = .ref T ∧ H T = none ∧ H' = upd H T (.tup [.int (i : Nat), x]) ∧ ∀ xs, SqT K H a xs → xs[i]? = some x, fun i H => ∃ xs : List V, SqT K H a xs ∧ xs.length = i⟩
theorem turn_et {P : Program} {w : World} {elts : List Expr} {kk : Nat} {tpos : Pos} (a e it : Addr) :
    Turn P w K (.Tuple elts kk tpos) (Iet K a) [e, it] e (fun i h => (∃ old, IsEnum h e it ((i : Nat) : Int) old) ∧ h.IsTupleIter it a i ∧ e ≠ it) where
  mem := List.mem_cons_self
  obj := fun i h ⟨⟨old, he⟩, ⟨o, ho, _, hd⟩, _⟩ b hb => by
    rcases List.mem_cons.mp hb with z | hb
    · rw [z]
      exact ⟨_, he, fun v q => nomatch q⟩
    · rw [List.mem_singleton.mp hb]
      exact ⟨o, ho, fun v q => by rw [hd] at q; cases q⟩
  keep := fun i h h' ⟨⟨old, he⟩, hi, hne⟩ k => ⟨⟨old, k e List.mem_cons_self _ he⟩, hi.at fun o q => k it (List.mem_cons_of_mem _ List.mem_cons_self) o q, hne⟩
  item := by
    intro X hP hw hK hc i pins s σ H E I hf st hg
    subst hP hw hK
    obtain ⟨⟨old, he⟩, hit, hne⟩ := st
    obtain ⟨xs, x, hq, hx⟩ := hg
    obtain ⟨its, rv, hp, hz⟩ := I.tuple hq
    have hp : s.heap.IsTuple a its.toArray := hp
    obtain ⟨u, hu, ru⟩ := rv.get hx
    have ea : a ≠ e := fun z => by
      obtain ⟨o, ho, hcl, _⟩ := hp
      rw [z, he] at ho
      cases ho
      exact absurd (Value.type.inj hcl) (by decide)
    have ia : a ≠ it := fun z => by
      obtain ⟨o, ho, hcl, _⟩ := hp
      obtain ⟨o2, ho2, hcl2, _⟩ := hit
      rw [z, ho2] at ho
      cases ho
      rw [hcl2] at hcl
      exact absurd (Value.type.inj hcl) (by decide)
    have el : e < s.heap.objs.size := Heap.lt_size he
    have il : it < s.heap.objs.size := by
      obtain ⟨_, q, _⟩ := hit
      exact Heap.lt_size q
    have hlt : i < its.toArray.size := by
      have := (List.getElem?_eq_some_iff.mp hu).1
      simpa using this
    refine wpAny_pyNext_enum_itemD (Draws.tuple (A := X.A.in1) (show X.A.in1.handled = none from I.ok.hd hc) it a ia its.toArray) he ⟨hit, hp⟩ hlt hne (fun z => by simp at z; rcases z with z | z; exact hne z; exact ea z.symm) fun y h' tk hy ho st' hT hsz hk => ?_
    have ey : y = u := by
      have h1 : its[i]? = some y := by simpa using hy
      rw [hu] at h1
      exact (Option.some.inj h1).symm
    subst ey
    refine ⟨_, rfl, wpAny_letOwnedTupleGo_enum (s := { s with heap := h', toks := tk + 1 }) ho fun h2 he2 sb => ?_⟩
    have hT2 : h2.get? s.heap.objs.size = some { cls := .type "tuple", data := .seq #[.int i tk, y] } := (sb.2 _ (Nat.ne_of_gt el)).trans hT
    have new : ObjOk X.prog X.w (upd H s.heap.objs.size (.tup [.int (i : Nat), x])) h2 s.heap.objs.size (.tup [.int (i : Nat), x]) := ⟨by show 2 ≤ sizeLine; decide, [.int i tk, y], .cons ⟨_, rfl⟩ (.cons ru .nil), ⟨_, hT2, rfl, _, rfl⟩⟩
    have I1 : Inv X pins σ (upd H s.heap.objs.size (.tup [.int (i : Nat), x])) { s with heap := h2, toks := tk + 1 } :=
      I.turnedNew (ch := [e, it]) (fun b ob hb q => (sb.2 b (fun z => hb (by simp [z]))).trans (hk b ob (fun z => hb (by simp [z])) (fun z => hb (by simp [z])) q)) hf (Nat.le_refl _) new
    refine ⟨.ref s.heap.objs.size, _, I1, rfl, ⟨_, x, rfl, I.hok.fresh (Nat.le_refl _), rfl, fun ys hy => ?_⟩, ⟨⟨y, ?_⟩, st'.1.at fun o q => (sb.2 it (Ne.symm hne)).trans q, hne⟩, fun b hb => ?_⟩
    · rw [I.tuple_inj hy hq]
      exact hx
    · have e1 : ((i + 1 : Nat) : Int) = (i : Int) + 1 := by omega
      rw [e1]
      exact he2
    · have hb2 : b < s.heap.objs.size := by
        rcases List.mem_cons.mp hb with z | z
        · rw [z]
          exact el
        · rw [List.mem_singleton.mp z]
          exact il
      rw [upd_ne (Nat.ne_of_lt hb2)]
      exact (hf b hb).1
  done := by
    intro X hP hw hK hc i pins s σ H E I hf st hg
    subst hP hw hK
    obtain ⟨⟨old, he⟩, hit, hne⟩ := st
    obtain ⟨xs, hq, hx⟩ := hg
    obtain ⟨its, rv, hp, hz⟩ := I.tuple hq
    have hp : s.heap.IsTuple a its.toArray := hp
    have ia : a ≠ it := fun z => by
      obtain ⟨o, ho, hcl, _⟩ := hp
      obtain ⟨o2, ho2, hcl2, _⟩ := hit
      rw [z, ho2] at ho
      cases ho
      rw [hcl2] at hcl
      exact absurd (Value.type.inj hcl) (by decide)
    obtain ⟨f0, f1, f2, f3, f4, f5⟩ := hf it (List.mem_cons_of_mem _ List.mem_cons_self)
    have hl : its.toArray.size = i := by
      rw [List.size_toArray, ← rv.length]
      exact hx
    refine wpAny_pyNext_enum_endD (Draws.tuple (A := X.A.in1) (show X.A.in1.handled = none from I.ok.hd hc) it a ia its.toArray) he ⟨by rw [hl]; exact hit, hp⟩ fun h' eb => ⟨rfl, I.turned (t' := s.toks) (fun b o hb q => eb b o hb q) f0 f1 f3 f4 f5⟩
  self := fun A i s Q E ⟨⟨_, he⟩, _⟩ h => wpAny_pyIter_enum he h
theorem pair_of {l l1 : Lh} {vs : List V} {ds : List D} {H H1 : Hp} {x y : V} {T : Addr} {i : Nat} (hd : DtAll K l vs ds) (g : Gr l l1) (hx : vs[i]? = some y) (ex : x = .ref T) (hT : H T = none) (eH : H1 = upd H T (.tup [.int (i : Nat), y])) :
    ∃ d, (enumF 0 ds)[i]? = some d ∧ ((H1 = H ∧ Dt K l1 x d) ∨ ∃ T vs ds, x = .ref T ∧ H T = none ∧ H1 = upd H T (.tup vs) ∧ d = .pr ds ∧ DtAll K l1 vs ds) := by
  obtain ⟨d, e1, dt⟩ := hd.getV hx
  have e2 := enumF_get ds 0 i d e1
  rw [Nat.zero_add] at e2
  exact ⟨_, e2, .inr ⟨T, _, _, ex, hT, eH, rfl, .cons (.int _) (.cons (dt.grow g) .nil)⟩⟩
theorem wk_enL {l : Lh} {a : Addr} {vs : List V} {ds : List D} (h : SqL K l.L a vs) (hd : DtAll K l vs ds) (hz : ds.length ≤ sizeLine) : Wk K l (Ite K a) (enumF 0 ds) := by
  refine ⟨by rw [enumF_len]; exact hz, fun H => SqL K H a vs, YPair (fun i => some (.int (i : Nat))) (fun i => vs[i]?), ?_, fun H x => x.sqL h, fun i H x H1 l1 hi g1 x1 ⟨T, u, y, e1, e2, e3, e4, e5⟩ => ?_⟩
  · rw [enumF_len, ← hd.length]
    exact walk_enum
  · cases e4
    exact pair_of hd g1 e5 e1 e2 e3
theorem wk_enT {l : Lh} {a : Addr} {vs : List V} {ds : List D} (h : SqT K l.L a vs) (hd : DtAll K l vs ds) (hz : ds.length ≤ sizeLine) : Wk K l (Iet K a) (enumF 0 ds) := by
  refine ⟨by rw [enumF_len]; exact hz, fun H => SqT K H a vs, YPair (fun i => some (.int (i : Nat))) (fun i => vs[i]?), ⟨fun i H hi q => ?_, fun H q => ?_, fun i H v H' _ q ⟨T, x, h1, h2, h3, h4⟩ => ⟨T, _, x, h1, h2, h3, rfl, h4 vs q⟩⟩, fun H x => x.sqT h, fun i H x H1 l1 hi g1 x1 ⟨T, u, y, e1, e2, e3, e4, e5⟩ => ?_⟩
  · rw [enumF_len, ← hd.length] at hi
    exact ⟨vs, vs[i], q, by simp [hi]⟩
  · rw [enumF_len, ← hd.length]
    exact ⟨vs, q, rfl⟩
  · cases e4
    exact pair_of hd g1 e5 e1 e2 e3
theorem li_enum {e : Expr} {m : M D} {p pos tpos : Pos} {elts : List Expr} {kk : Nat} (hm : X.mg "enumerate" = none) (he : LE X c W e m) (hg : Gl X "enumerate" := by rfl) (hs : starEach [e] X.env = [(false, eval e X.env)] := by rfl) :
    LI X c W (.Tuple elts kk tpos) (.Call (.Name "enumerate" p) [e] [] pos) (bnd m fun a => opt (iEn a)) := li_of he fun pins s σ H R t ht I h => by
  refine Call_ (ld_blt I hg hm boot_enumerate (PyProof.Rows.callWith_type1 (thn ((pa_cons ht pa_nil hs).run pos pins s σ H (fun vs H1 => ∃ x, vs = [x] ∧ ∃ l1 d xs, Ext l1.L H1 ∧ Dt X.K l1 x d ∧ iEn d = some xs ∧ ∀ J, Wk X.K l1 J xs → R J H1) I (h _ fun x H1 z => ⟨x, rfl, z⟩)) fun us s1 ⟨vs, H1, I1, r1, x, ev, l1, d, xs, x1, dt, ef, k⟩ => ?_) hs rfl))
  subst ev
  obtain ⟨u, rfl, rx⟩ := vals1 r1
  have fp : ∀ b ∈ [s1.heap.objs.size + 1, s1.heap.objs.size], FpOk X pins H1 b := fun b hb => by
    have hle : s1.heap.objs.size ≤ b := by
      rcases List.mem_cons.mp hb with z | z
      · rw [z]
        exact Nat.le_add_right _ _
      · rw [List.mem_singleton.mp z]
        exact Nat.le_refl _
    exact I1.fpOk hle (I1.hok.fresh hle)
  have onL : ∀ (a : Addr) (ws : List V) (ds : List D), u = .ref a → SqL X.K l1.L a ws → DtAll X.K l1 ws ds → xs = enumF 0 ds → wpAny (model X.prog X.w) X.A (PySem.call (.type "enumerate") [u]) (fun v s1 => wpAny (model X.prog X.w) X.A (pyIter v) (PIE X pins σ (.Tuple elts kk tpos) R) X.xe s1) X.xe s1 := by
    intro a ws ds hu hq hd hx
    subst hu hx
    obtain ⟨its, rv, p', hz⟩ := I1.list (x1.sqL hq)
    refine call_enumerate_list p'.isList fun h' he hit hsz hk => wpAny_pyIter_enum he ?_
    exact ⟨_, _, _, _, H1, rfl, I1.kept (t' := s1.toks) hk, turn_enum a (s1.heap.objs.size + 1) s1.heap.objs.size, ⟨⟨.none, he⟩, hit, Nat.succ_ne_self _⟩, fp, k _ (wk_enL hq hd (by rw [← hd.length]; exact hz))⟩
  cases dt with
  | @lst a ws ds h1 h2 => exact onL a ws ds rx (SqL.of h1) h2 (Option.some.inj ef).symm
  | @scr a ns h1 => exact onL a _ _ rx h1 (DtAll.ints ns) (Option.some.inj ef).symm
  | @tup a ws ds h0 h2 =>
    have h1 := h0.sqT
    cases rx
    obtain rfl : enumF 0 ds = xs := Option.some.inj ef
    obtain ⟨its, rv, p', hz⟩ := I1.tuple (x1.sqT h1)
    refine lw_enum_call (show s1.heap.IsTuple a its.toArray from p') fun h' he hit hk => wpAny_pyIter_enum he ?_
    exact ⟨_, _, _, _, H1, rfl, I1.kept (t' := s1.toks) hk, turn_et a (s1.heap.objs.size + 1) s1.heap.objs.size, ⟨⟨.none, he⟩, hit, Nat.succ_ne_self _⟩, fp, k _ (wk_enT h1 h2 (by rw [← h2.length]; exact hz))⟩
  | _ => cases ef
end
end Lw

set_option Elab.async false
set_option linter.all false
set_option maxRecDepth 100000
set_option maxHeartbeats 4000000
/-! Lw: new lists that a slot may own; comprehensions. -/
namespace Lw
open PySem PySem.Spec PyProof.Rows L2

/-- the object at p is known to nobody -/
structure Apart (c : Pk) (l : Lh) (S : S) (σ : L2.St) (p : Addr) : Prop where
  nl : l.L p = none
  h : c.H0 p = none
  w : p ∉ mtL l
  o : ∀ (i : Nat) xs, S.σ[i]? = some (some (.l xs)) → σ[i]? ≠ some (some (.ref p))
/-- c with one object more that stands -/
def Pk.and (c : Pk) (p : Addr) (o : HO) : Pk := ⟨c.T, c.l0, upd c.H0 p o, c.fx⟩
section
variable {K : PySem.W.Frag} {c : Pk} {l : Lh} {S : S} {σ : L2.St} {H : Hp} {p : Addr}
theorem Apart.wm0 (r : Rep K c l S σ H) (u : Apart c l S σ p) : p ∉ mtL c.l0 := fun z => by
  rcases List.mem_append.mp z with z | z
  · rcases r.rt.wk with e | ⟨e, _⟩
    · rw [← e] at z
      exact u.w (List.mem_append_left _ z)
    · rw [e] at z
      simp [wmL] at z
  · obtain ⟨m, e⟩ := r.rt.gr.2.2
    exact u.w (List.mem_append_right _ (by rw [e]; exact List.mem_append_left _ z))
/-- it may be kept in mind -/
theorem Rep.mind (r : Rep K c l S σ H) {vs : List V} (u : Apart c l S σ p) (hp : H p = some (.lst vs)) : Rep K (c.and p (.lst vs)) l S σ H := by
  refine ⟨⟨r.rt.gr, r.rt.lh, fun a o e => ?_, r.rt.ml, r.rt.nt, fun a o (e : upd c.H0 p (.lst vs) a = some o) n t => ?_, fun a e => ?_, r.rt.tb, ?_, fun a ha => ?_, r.rt.mr, r.rt.ce, r.rt.sm⟩, r.ln, r.sd, fun i xs e => ?_, r.di, r.sf⟩
  · rcases r.rt.nw a o e with z | z
    · exact .inl z
    · refine .inr ?_
      show upd c.H0 p (.lst vs) a = none
      rw [upd_ne (fun q => by rw [q, u.nl] at e; cases e)]
      exact z
  · by_cases h : a = p
    · rw [h, upd_same] at e
      cases e
      rw [h]
      exact hp
    · rw [upd_ne h] at e
      exact r.rt.fr a o e n t
  · show upd c.H0 p (.lst vs) a = none
    rw [upd_ne (fun q => by rw [q, hp] at e; cases e)]
    exact r.rt.fd a e
  · rcases r.rt.wk with e | ⟨e, f⟩
    · exact .inl e
    · refine .inr ⟨e, fun a ha => ?_⟩
      show upd c.H0 p (.lst vs) a = none
      rw [upd_ne (fun (q : a = p) => u.w (q ▸ List.mem_append_left _ ha))]
      exact f a ha
  · rcases r.rt.ck a ha with z | z
    · exact .inl z
    · refine .inr ?_
      show upd c.H0 p (.lst vs) a = none
      rw [upd_ne (fun (q : a = p) => u.w (q ▸ List.mem_append_right _ ha))]
      exact z
  · obtain ⟨a, ws, h1, h2, h3, h4, h5, h6⟩ := r.so i xs e
    refine ⟨a, ws, h1, h2, h3, h4, ?_, h6⟩
    show upd c.H0 p (.lst vs) a = none
    rw [upd_ne (fun (q : a = p) => u.o i xs e (q ▸ h1))]
    exact h5
/-- .. and forgotten -/
theorem Rep.unmind {vs : List V} (h0 : c.H0 p = none) (hl0 : c.l0.L p = none) (hw0 : p ∉ mtL c.l0) (r : Rep K (c.and p (.lst vs)) l S σ H) : Rep K c l S σ H ∧ H p = some (.lst vs) ∧ Apart c l S σ p := by
  have hp : H p = some (.lst vs) := r.rt.fr p _ upd_same hw0 (fun _ z => nomatch z)
  have low : ∀ a, upd c.H0 p (.lst vs) a = none → c.H0 a = none ∧ a ≠ p := fun a e => by
    have n : a ≠ p := fun q => by
      rw [q, upd_same] at e
      cases e
    rw [upd_ne n] at e
    exact ⟨e, n⟩
  have lp : l.L p = none := by
    cases e : l.L p with
    | none => rfl
    | some o =>
      rcases r.rt.nw p o e with z | z
      · have z : c.l0.L p = some o := z
        rw [hl0] at z
        cases z
      · exact absurd rfl (low p z).2
  refine ⟨⟨⟨r.rt.gr, r.rt.lh, fun a o e => ?_, r.rt.ml, r.rt.nt, fun a o e n t => ?_, fun a e => (low a (r.rt.fd a e)).1, r.rt.tb, ?_, fun a ha => (r.rt.ck a ha).imp id fun z => (low a z).1, r.rt.mr, r.rt.ce, r.rt.sm⟩, r.ln, r.sd, fun i xs e => ?_, r.di, r.sf⟩, hp, lp, h0, fun z => ?_, fun i xs e z => ?_⟩
  · rcases r.rt.nw a o e with z | z
    · exact .inl z
    · exact .inr (low a z).1
  · refine r.rt.fr a o ?_ n t
    show upd c.H0 p (.lst vs) a = some o
    rw [upd_ne (fun q => by rw [q, h0] at e; cases e)]
    exact e
  · rcases r.rt.wk with e | ⟨e, f⟩
    · exact .inl e
    · exact .inr ⟨e, fun a ha => (low a (f a ha)).1⟩
  · obtain ⟨a, ws, h1, h2, h3, h4, h5, h6⟩ := r.so i xs e
    exact ⟨a, ws, h1, h2, h3, h4, (low a h5).1, h6⟩
  · rcases List.mem_append.mp z with z | z
    · rcases r.rt.wk with e | ⟨_, f⟩
      · have e : l.wm = c.l0.wm := e
        rw [e] at z
        exact hw0 (List.mem_append_left _ z)
      · exact (low p (f p z)).2 rfl
    · rcases r.rt.ck p z with e | e
      · exact hw0 (List.mem_append_right _ e)
      · exact (low p e).2 rfl
  · obtain ⟨a, ws, h1, h2, h3, h4, h5, h6⟩ := r.so i xs e
    rw [z] at h1
    injection h1 with h1
    injection h1 with h1
    injection h1 with h1
    exact (low a h5).2 h1.symm
/-- it is written -/
theorem Rep.wrO (r : Rep K c l S σ H) {vs ws : List V} (u : Apart c l S σ p) (hp : H p = some (.lst vs)) : Rep K c l S σ (upd H p (.lst ws)) := by
  refine ⟨⟨r.rt.gr, fun a o e => ?_, r.rt.nw, r.rt.ml, r.rt.nt, fun a o e n t => ?_, fun a e => ?_, tabs_step r.rt.tb fun a o h1 h2 => ?_, r.rt.wk, r.rt.ck, r.rt.mr.step fun a ha o e => ?_, r.rt.ce.step (Gr.refl _) rfl rfl fun a ha o e => ?_, by obtain ⟨ob, e⟩ := r.rt.sm; exact ⟨ob, by rw [upd_ne (fun q => by rw [← q, e] at hp; cases hp)]; exact e⟩⟩, r.ln, r.sd, fun i xs e => ?_, r.di, r.sf⟩
  · rw [upd_ne (fun q => by rw [q, u.nl] at e; cases e)]
    exact r.rt.lh a o e
  · rw [upd_ne (fun q => by rw [q, u.h] at e; cases e)]
    exact r.rt.fr a o e n t
  · by_cases h : a = p
    · rw [h, upd_same] at e
      cases e
    · rw [upd_ne h] at e
      exact r.rt.fd a e
  · have n : a ≠ p := fun z => by
      rw [z, hp] at h1
      injection h1 with h1
      rcases h2 with ⟨ps, h2⟩ | ⟨cc, q, h2⟩
      · rw [← h1] at h2
        cases h2
      · rw [← h1] at h2
        unfold LamX.CodeO at h2
        cases h2
    rw [upd_ne n]
    exact h1
  · rw [upd_ne (fun (q : a = p) => u.w (q ▸ List.mem_append_left _ ha))]
    exact e
  · rw [upd_ne (fun (q : a = p) => u.w (q ▸ List.mem_append_right _ ha))]
    exact e
  · obtain ⟨a, xs', h1, h2, h3, h4, h5, h6⟩ := r.so i xs e
    refine ⟨a, xs', h1, ?_, h3, h4, h5, h6⟩
    rw [upd_ne (fun (q : a = p) => u.o i xs e (q ▸ h1))]
    exact h2
/-- it becomes a value -/
theorem Rep.adopt (r : Rep K c l S σ H) {vs : List V} (u : Apart c l S σ p) (hp : H p = some (.lst vs)) : Rep K c ⟨upd l.L p (.lst vs), l.wm, l.cl⟩ S σ H ∧ Gr l ⟨upd l.L p (.lst vs), l.wm, l.cl⟩ := by
  have g : Gr l ⟨upd l.L p (.lst vs), l.wm, l.cl⟩ := gr_upd u.nl
  refine ⟨⟨⟨r.rt.gr.trans g, fun a o (e : upd l.L p (.lst vs) a = some o) => ?_, fun a o (e : upd l.L p (.lst vs) a = some o) => ?_, fun a ha => ?_, fun a o (e : upd l.L p (.lst vs) a = some o) => ?_, r.rt.fr, r.rt.fd, r.rt.tb, r.rt.wk, r.rt.ck, r.rt.mr, r.rt.ce.step g rfl rfl fun _ _ _ h => h, r.rt.sm⟩, r.ln, fun i x e => ?_, fun i xs e => ?_, r.di, r.sf⟩, g⟩
  · by_cases h : a = p
    · rw [h, upd_same] at e
      cases e
      rw [h]
      exact hp
    · rw [upd_ne h] at e
      exact r.rt.lh a o e
  · by_cases h : a = p
    · rw [h]
      exact .inr u.h
    · rw [upd_ne h] at e
      exact r.rt.nw a o e
  · show upd l.L p (.lst vs) a = none
    rw [upd_ne (fun (q : a = p) => u.w (q ▸ ha))]
    exact r.rt.ml a ha
  · by_cases h : a = p
    · rw [h, upd_same] at e
      cases e
      exact nt_lst
    · rw [upd_ne h] at e
      exact r.rt.nt a o e
  · obtain ⟨v, h1, h2⟩ := r.sd i x e
    exact ⟨v, h1, h2.grow g⟩
  · obtain ⟨a, xs', h1, h2, h3, h4, h5, h6⟩ := r.so i xs e
    refine ⟨a, xs', h1, h2, h3.grow g, ?_, h5, h6⟩
    show upd l.L p (.lst vs) a = none
    rw [upd_ne (fun (q : a = p) => u.o i xs e (q ▸ h1))]
    exact h4
/-- .. or a slot's own -/
theorem Rep.own2 (r : Rep K c l S σ H) {i : Nat} {vs : List V} {xs : List D} (u : Apart c l S σ p) (hp : H p = some (.lst vs)) (h : DtAll K l vs xs) : Rep K c l { S with σ := S.σ.set i (some (.l xs)) } (σ.set i (some (.ref p))) H := by
  have at_ : ∀ {j : Nat} {ys : List D}, (S.σ.set i (some (.l xs)))[j]? = some (some (.l ys)) → (j = i ∧ j < S.σ.length ∧ ys = xs) ∨ (j ≠ i ∧ S.σ[j]? = some (some (.l ys))) := fun {j ys} e => by
    by_cases hj : j = i
    · subst hj
      have hl : j < S.σ.length := by
        have := (List.getElem?_eq_some_iff.mp e).1
        simpa using this
      rw [List.getElem?_set_self hl] at e
      injection e with e
      injection e with e
      injection e with e
      exact .inl ⟨rfl, hl, e.symm⟩
    · rw [List.getElem?_set_ne (Ne.symm hj)] at e
      exact .inr ⟨hj, e⟩
  refine ⟨r.rt, by simpa using r.ln, fun j y e => ?_, fun j ys e => ?_, fun j k ys zs a n e1 e2 e3 e4 => ?_, fun j k e => by
    obtain ⟨n, e⟩ := set_fl e
    rw [List.getElem?_set_ne n]
    exact r.sf j k e⟩
  · have e : (S.σ.set i (some (.l xs)))[j]? = some (some (.d y)) := e
    by_cases hj : j = i
    · subst hj
      have hl : j < S.σ.length := by
        have := (List.getElem?_eq_some_iff.mp e).1
        simpa using this
      rw [List.getElem?_set_self hl] at e
      injection e with e
      injection e with e
      cases e
    · rw [List.getElem?_set_ne (Ne.symm hj)] at e ⊢
      exact r.sd j y e
  · rcases at_ e with ⟨rfl, hl, rfl⟩ | ⟨hj, e'⟩
    · exact ⟨p, vs, List.getElem?_set_self (by rw [r.ln]; exact hl), hp, h, u.nl, u.h, u.w⟩
    · rw [List.getElem?_set_ne (Ne.symm hj)]
      exact r.so j ys e'
  · rcases at_ e1 with ⟨j1, hl, _⟩ | ⟨hj, e1'⟩
    · rcases at_ e2 with ⟨k1, _, _⟩ | ⟨hk, e2'⟩
      · exact n (j1.trans k1.symm)
      · rw [j1, List.getElem?_set_self (by rw [r.ln, ← j1]; exact hl)] at e3
        rw [List.getElem?_set_ne (Ne.symm hk)] at e4
        injection e3 with e3
        injection e3 with e3
        injection e3 with e3
        exact u.o k zs e2' (e3 ▸ e4)
    · rcases at_ e2 with ⟨k1, hl, _⟩ | ⟨hk, e2'⟩
      · rw [k1, List.getElem?_set_self (by rw [r.ln, ← k1]; exact hl)] at e4
        rw [List.getElem?_set_ne (Ne.symm hj)] at e3
        injection e4 with e4
        injection e4 with e4
        injection e4 with e4
        exact u.o j ys e1' (e4 ▸ e3)
      · rw [List.getElem?_set_ne (Ne.symm hj)] at e3
        rw [List.getElem?_set_ne (Ne.symm hk)] at e4
        exact r.di j k ys zs a n e1' e2' e3 e4
/-- a new object is known to nobody -/
theorem Rep.new (r : Rep K c l S σ H) {vs : List V} (hp : H p = none) : Rep K c l S σ (upd H p (.lst vs)) ∧ Apart c l S σ p := by
  refine ⟨r.on (r.rt.layO hp), r.rt.lh.none hp, r.rt.fd p hp, fun z => ?_, fun i xs e z => ?_⟩
  · obtain ⟨o, e, _⟩ := r.rt.mt p z
    rw [hp] at e
    cases e
  · obtain ⟨a, ws, h1, h2, _⟩ := r.so i xs e
    rw [z] at h1
    injection h1 with h1
    injection h1 with h1
    injection h1 with h1
    rw [← h1, hp] at h2
    cases h2
end

/-! ### an expression that gives a new list -/
def RF (K : PySem.W.Frag) (c : Pk) (W : WX) (l : Lh) (σ : L2.St) (Q : VK) : Res (List D) → Prop
  | .ok ds S' => ∀ p vs H' l', Rep K c l' S' σ H' → Gr l l' → H' p = some (.lst vs) → Apart c l' S' σ p → DtAll K l' vs ds → Q (.ref p) H'
  | .er x S' => ∀ cls dd H' l', Rep K c l' S' σ H' → Gr l l' → Fly K l' cls dd x → W cls dd σ H'
  | .no => False
def liftF (K : PySem.W.Frag) (c : Pk) (W : WX) (m : M (List D)) : TE := fun σ H Q => ∃ l S, Rep K c l S σ H ∧ RF K c W l σ Q (m S)
abbrev LF (X : Cx) (c : Pk) (W : WX) (e : Expr) (m : M (List D)) : Prop := PE X e (liftF X.K c W m)
section
variable {X : Cx} {c : Pk} {W : WX}
theorem f_imp {m : M (List D)} {σ : L2.St} {H : Hp} {Q : VK} (h : liftE X.K c W (mF m) σ H Q) : liftF X.K c W m σ H Q := by
  obtain ⟨l, S, rp, po⟩ := h
  refine ⟨l, S, rp, ?_⟩
  unfold mF at po
  cases e : m S with
  | no =>
    rw [bnd_no e] at po
    exact po
  | er x S1 =>
    rw [bnd_er e] at po
    exact po
  | ok ds S1 =>
    rw [bnd_ok e] at po
    intro p vs H' l' rp' g hp u dt
    have a := rp'.adopt u hp
    exact po _ H' _ a.1 (g.trans a.2) (.lst upd_same (dt.grow a.2))
theorem le_f {e : Expr} {m : M (List D)} (h : LF X c W e m) : LE X c W e (mF m) := PE.imp h fun σ H Q h => f_imp h
/-- x = a new list of its own -/
theorem own_imp {i : Nat} {m : M (List D)} {D : Ends} {σ : L2.St} {H : Hp} (h : liftS X.K c W (sOwn i m) D σ H) : tAsg (liftF X.K c W m) (gName i) D σ H := by
  obtain ⟨l, S, rp, po⟩ := h
  refine ⟨l, S, rp, ?_⟩
  unfold sOwn at po
  cases e : m S with
  | no =>
    rw [bnd_no e] at po
    exact po
  | er x S1 =>
    rw [bnd_er e] at po
    exact fun cls dd H' l' rp' g f => po cls dd σ H' l' rp' g f
  | ok ds S1 =>
    rw [bnd_ok e] at po
    intro p vs H' l' rp' g hp u dt
    unfold putS at po
    by_cases hi : i < S1.σ.length
    · have e2 : (if i < S1.σ.length then Res.ok () { S1 with σ := S1.σ.set i (some (.l ds)) } else Res.no) = .ok () { S1 with σ := S1.σ.set i (some (.l ds)) } := if_pos hi
      unfold bnd at po
      dsimp only at po
      rw [e2] at po
      exact po _ H' l' (rp'.own2 u hp dt) g
    · have e2 : (if i < S1.σ.length then Res.ok () { S1 with σ := S1.σ.set i (some (.l ds)) } else Res.no) = .no := if_neg hi
      unfold bnd at po
      dsimp only at po
      rw [e2] at po
      exact po.elim
theorem ls_own (i : Nat) {x : Str} {e : Expr} {m : M (List D)} {pos pos' : Pos} (hN : X.N.Nodup) (h : LF X c W e m) (hi : X.N[i]? = some x := by rfl) (hx : Loc X.env.scope x := by first | exact Or.inl rfl | exact Or.inr rfl) (hs : swapsWith e (some (.Name x pos')) pos.line X.env = pure false := by rfl)
    (hf : X.fn x = true ∨ X.env.scope.names.lookup x = some .local := by first | exact .inl rfl | exact .inr rfl) : LS X c W (.Assign [.Name x pos'] e pos) (sOwn i m) := PS.imp (ps_set hN hi hx h hs hf) fun D σ H h => own_imp h
/-- a display -/
theorem lf_lst {es : List Expr} {m : M (List D)} {pos : Pos} (h : LA X c W es m) (hz : es.length ≤ 1000 := by decide) : LF X c W (.List es pos) m :=
  PE.imp (pe_lst h) fun σ H Q ⟨l, S, rp, po⟩ => by
    refine ⟨l, S, rp, ?_⟩
    cases e : m S with
    | no =>
      rw [e] at po
      exact po
    | er x S1 =>
      rw [e] at po
      exact po
    | ok ds S1 =>
      rw [e] at po
      intro vs H1 l1 rp1 g1 q1
      refine ⟨?_, fun p hp => ?_⟩
      · rw [q1.1.length, q1.2, sizeLine_eq]
        omega
      · have n := rp1.new (vs := vs) hp
        exact po p vs _ l1 n.1 g1 upd_same n.2 q1.1
end

/-! ### comprehensions -/
theorem wipe_out {σ : L2.St} {j : Nat} : ∀ {vs : List Nat}, j ∉ vs → (wipe σ vs)[j]? = σ[j]?
  | [], _ => rfl
  | v :: vs, h => by
    unfold wipe
    rw [List.getElem?_set_ne (fun e => h (by rw [e]; exact List.mem_cons_self))]
    exact wipe_out fun z => h (List.mem_cons_of_mem _ z)
theorem wipe_in {σ : L2.St} {j : Nat} (hl : j < σ.length) : ∀ {vs : List Nat}, j ∈ vs → (wipe σ vs)[j]? = some none
  | [], h => by simp at h
  | v :: vs, h => by
    unfold wipe
    by_cases e : v = j
    · subst e
      rw [List.getElem?_set_self (by rw [wipe_length]; exact hl)]
    · rw [List.getElem?_set_ne e]
      rcases List.mem_cons.mp h with z | z
      · exact absurd z.symm e
      · exact wipe_in hl z
theorem wipe_off {σ σ' : L2.St} {vs : List Nat} (o : Off (· ∈ vs) (wipe σ vs) σ') : wipe σ' vs = wipe σ vs := by
  have hl : σ'.length = σ.length := o.1.trans (wipe_length _ _)
  apply List.ext_getElem?
  intro j
  by_cases h : j ∈ vs
  · by_cases hj : j < σ.length
    · rw [wipe_in (by rw [hl]; exact hj) h, wipe_in hj h]
    · rw [List.getElem?_eq_none (by rw [wipe_length, hl]; omega), List.getElem?_eq_none (by rw [wipe_length]; omega)]
  · rw [wipe_out h]
    have := o.2 j h
    rw [this, wipe_out h]
theorem wipeS_len (σ : List (Option Sl)) : ∀ vs : List Nat, (wipeS vs σ).length = σ.length
  | [] => rfl
  | v :: vs => by
    unfold wipeS
    rw [List.length_set, wipeS_len σ vs]
theorem wipeS_out {σ : List (Option Sl)} {j : Nat} : ∀ {vs : List Nat}, j ∉ vs → (wipeS vs σ)[j]? = σ[j]?
  | [], _ => rfl
  | v :: vs, h => by
    unfold wipeS
    rw [List.getElem?_set_ne (fun e => h (by rw [e]; exact List.mem_cons_self))]
    exact wipeS_out fun z => h (List.mem_cons_of_mem _ z)
theorem wipeS_some {σ : List (Option Sl)} {j : Nat} {x : Sl} : ∀ {vs : List Nat}, (wipeS vs σ)[j]? = some (some x) → j ∉ vs ∧ σ[j]? = some (some x)
  | [], h => ⟨by simp, h⟩
  | v :: vs, h => by
    unfold wipeS at h
    by_cases e : v = j
    · subst e
      by_cases hl : v < (wipeS vs σ).length
      · rw [List.getElem?_set_self hl] at h
        cases h
      · rw [List.getElem?_eq_none (by rw [List.length_set]; omega)] at h
        cases h
    · rw [List.getElem?_set_ne e] at h
      obtain ⟨h1, h2⟩ := wipeS_some h
      exact ⟨fun z => (List.mem_cons.mp z).elim (fun q => e q.symm) h1, h2⟩
theorem unwipe_len (old σ : List (Option Sl)) : ∀ vs : List Nat, (unwipe old vs σ).length = σ.length
  | [] => rfl
  | v :: vs => by
    unfold unwipe
    rw [List.length_set, unwipe_len old σ vs]
theorem unwipe_out {old σ : List (Option Sl)} {j : Nat} : ∀ {vs : List Nat}, j ∉ vs → (unwipe old vs σ)[j]? = σ[j]?
  | [], _ => rfl
  | v :: vs, h => by
    unfold unwipe
    rw [List.getElem?_set_ne (fun e => h (by rw [e]; exact List.mem_cons_self))]
    exact unwipe_out fun z => h (List.mem_cons_of_mem _ z)
theorem unwipe_in {old σ : List (Option Sl)} {j : Nat} (hl : j < σ.length) : ∀ {vs : List Nat}, j ∈ vs → (unwipe old vs σ)[j]? = some ((old[j]?).getD none)
  | [], h => by simp at h
  | v :: vs, h => by
    unfold unwipe
    by_cases e : v = j
    · subst e
      rw [List.getElem?_set_self (by rw [unwipe_len]; exact hl)]
    · rw [List.getElem?_set_ne e]
      rcases List.mem_cons.mp h with z | z
      · exact absurd z.symm e
      · exact unwipe_in hl z
section
variable {K : PySem.W.Frag} {c : Pk} {l l' : Lh} {S S' : Lw.S} {σ : L2.St} {H H' : Hp}
theorem Rep.wipe (r : Rep K c l S σ H) (vs : List Nat) : Rep K c l { S with σ := wipeS vs S.σ } (L2.wipe σ vs) H where
  rt := r.rt
  ln := by
    show (L2.wipe σ vs).length = (wipeS vs S.σ).length
    rw [wipe_length, wipeS_len]
    exact r.ln
  sd := fun i x e => by
    obtain ⟨h1, h2⟩ := wipeS_some e
    rw [wipe_out h1]
    exact r.sd i x h2
  so := fun i xs e => by
    obtain ⟨h1, h2⟩ := wipeS_some e
    rw [wipe_out h1]
    exact r.so i xs h2
  di := fun i j xs ys a n e1 e2 e3 e4 => by
    obtain ⟨h1, h2⟩ := wipeS_some e1
    obtain ⟨h3, h4⟩ := wipeS_some e2
    rw [wipe_out h1] at e3
    rw [wipe_out h3] at e4
    exact r.di i j xs ys a n h2 h4 e3 e4
  sf := fun i k e => by
    obtain ⟨h1, h2⟩ := wipeS_some e
    rw [wipe_out h1]
    exact r.sf i k h2
theorem Apart.wipe {p : Addr} (u : Apart c l S σ p) (vs : List Nat) : Apart c l { S with σ := wipeS vs S.σ } (L2.wipe σ vs) p := ⟨u.nl, u.h, u.w, fun i xs e => by
  obtain ⟨h1, h2⟩ := wipeS_some e
  rw [wipe_out h1]
  exact u.o i xs h2⟩
theorem Rep.unwipe {vs : List Nat} (r : Rep K c l S σ H) (r' : Rep K c l' S' (L2.wipe σ vs) H') (g : Gr l l') (n : noOwn vs S.σ = true) : Rep K c l' { S' with σ := unwipe S.σ vs S'.σ } σ H' := by
  have len : S'.σ.length = σ.length := by
    have := r'.ln
    rw [wipe_length] at this
    exact this.symm
  have own : ∀ {i : Nat} {xs : List D}, (Lw.unwipe S.σ vs S'.σ)[i]? = some (some (.l xs)) → i ∉ vs ∧ S'.σ[i]? = some (some (.l xs)) := fun {i xs} e => by
    by_cases h : i ∈ vs
    · have hl : i < S'.σ.length := by
        have := (List.getElem?_eq_some_iff.mp e).1
        rw [unwipe_len] at this
        exact this
      rw [unwipe_in hl h] at e
      have q := List.all_eq_true.mp n i h
      cases z : S.σ[i]? with
      | none =>
        rw [z] at e
        cases e
      | some s =>
        rw [z] at e q
        have e : s = some (.l xs) := by simpa using e
        rw [e] at q
        cases q
    · rw [unwipe_out h] at e
      exact ⟨h, e⟩
  refine ⟨r'.rt, by rw [unwipe_len]; exact len.symm, fun i x e => ?_, fun i xs e => ?_, fun i j xs ys a ne e1 e2 e3 e4 => ?_, fun i k e => ?_⟩
  · have e : (Lw.unwipe S.σ vs S'.σ)[i]? = some (some (.d x)) := e
    by_cases h : i ∈ vs
    · have hl : i < S'.σ.length := by
        have := (List.getElem?_eq_some_iff.mp e).1
        rw [unwipe_len] at this
        exact this
      rw [unwipe_in hl h] at e
      cases z : S.σ[i]? with
      | none =>
        rw [z] at e
        cases e
      | some s =>
        rw [z] at e
        have e : s = some (.d x) := by simpa using e
        subst e
        obtain ⟨v, h1, h2⟩ := r.sd i x z
        exact ⟨v, h1, h2.grow g⟩
    · rw [unwipe_out h] at e
      obtain ⟨v, h1, h2⟩ := r'.sd i x e
      rw [wipe_out h] at h1
      exact ⟨v, h1, h2⟩
  · obtain ⟨h, e'⟩ := own e
    have := r'.so i xs e'
    rw [wipe_out h] at this
    exact this
  · obtain ⟨h, e1'⟩ := own e1
    obtain ⟨h', e2'⟩ := own e2
    rw [← wipe_out h] at e3
    rw [← wipe_out h'] at e4
    exact r'.di i j xs ys a ne e1' e2' e3 e4
  · have e : (Lw.unwipe S.σ vs S'.σ)[i]? = some (some (.f k)) := e
    by_cases h : i ∈ vs
    · have hl : i < S'.σ.length := by
        have := (List.getElem?_eq_some_iff.mp e).1
        rw [unwipe_len] at this
        exact this
      rw [unwipe_in hl h] at e
      cases z : S.σ[i]? with
      | none =>
        rw [z] at e
        cases e
      | some s =>
        rw [z] at e
        have e : s = some (.f k) := by simpa using e
        subst e
        obtain ⟨v, h1, h2⟩ := r.sf i k z
        exact ⟨v, h1.grow g, h2⟩
    · rw [unwipe_out h] at e
      have := r'.sf i k e
      rw [wipe_out h] at this
      exact this
end
abbrev noW : WX := fun _ _ _ _ => False
/-- a comprehension's reading: from the mirror's -/
theorem lc_imp {K : PySem.W.Frag} {c : Pk} {W : WX} {vs : List Nat} {it : M (List D)} {g : Tg} {t : M Bool} {e : M D} {G : TG} {TT' : TT} {TE' : TE}
    (hG : ∀ p a, ∀ x σ H Q, liftTg K (c.and p a) (· ∈ vs) g x σ H Q → G x σ H Q) (hT : ∀ p a, ∀ σ H Q, liftT K (c.and p a) noW t σ H Q → TT' σ H Q) (hE : ∀ p a, ∀ σ H Q, liftE K (c.and p a) noW e σ H Q → TE' σ H Q)
    {σ : L2.St} {H : Hp} {Q : VK} (h : liftF K c W (mLc it g t e vs) σ H Q) : tLc (liftI K c W it) G TT' TE' vs σ H Q := by
  obtain ⟨l, S, rp, po⟩ := h
  refine ⟨l, S, rp, ?_⟩
  unfold mLc at po
  cases ei : it S with
  | no =>
    rw [bnd_no ei] at po
    exact po
  | er x S1 =>
    rw [bnd_er ei] at po
    exact po
  | ok xs S1 =>
    rw [bnd_ok ei] at po
    intro J H1 l1 rp1 g1 ⟨hz, Gd, Y, wk, hGd, hY⟩ D hD
    unfold lcA at po
    cases en : noOwn vs S1.σ with
    | false =>
      rw [en] at po
      exact po.elim
    | true =>
      rw [en, if_pos rfl] at po
      have n0 := rp1.new (vs := []) hD
      have w0 := n0.1.wipe vs
      have u0 := n0.2.wipe vs
      have sw := sizeLine_eq
      refine lc_it (σ := σ) (D := D) wk (fun i H => ∃ l2 S2 acc pre, Rep K c l2 S2 (L2.wipe σ vs) H ∧ Gr l1 l2 ∧ H D = some (.lst acc) ∧ DtAll K l2 acc pre ∧ pre.length ≤ i ∧ Apart c l2 S2 (L2.wipe σ vs) D ∧
        ∃ ys S3, lcL g t e vs (xs.drop i) S2 = .ok ys S3 ∧ lcL g t e vs xs { S1 with σ := wipeS vs S1.σ } = .ok (pre ++ ys) S3) ?_ (fun i H _ ⟨l2, S2, acc, pre, r2, g2, _⟩ => hGd H (g2.1.trans r2.rt.lh)) ?_ ?_
      · cases eL : lcL g t e vs xs { S1 with σ := wipeS vs S1.σ } with
        | no =>
          rw [eL] at po
          exact po.elim
        | er x S3 =>
          rw [eL] at po
          exact po.elim
        | ok ys S3 => exact ⟨l1, _, [], [], w0, Gr.refl _, upd_same, .nil, Nat.zero_le _, u0, ys, S3, eL, rfl⟩
      · rintro i x H2 H3 hi ⟨l2, S2, acc, pre, r2, g2, hDv, dt, hpre, u2, ys, S3, eL, eT⟩ hy
        obtain ⟨d, hd, hx⟩ := hY i H2 x H3 l2 hi g2 r2.rt.lh hy
        have ed : xs.drop i = d :: xs.drop (i + 1) := by
          obtain ⟨hlt, q⟩ := List.getElem?_eq_some_iff.mp hd
          rw [← q]
          exact List.drop_eq_getElem_cons hlt
        rw [ed] at eL
        have eL : bnd (lc1 g t e vs d) (fun y => bnd (lcL g t e vs (xs.drop (i + 1))) fun ys => ret (y ++ ys)) S2 = .ok ys S3 := eL
        -- the turn's own item
        obtain ⟨l3, r3, g3, dx, hD3⟩ : ∃ l3, Rep K (c.and D (.lst acc)) l3 S2 (L2.wipe σ vs) H3 ∧ Gr l2 l3 ∧ Dt K l3 x d ∧ True := by
          have m2 := r2.mind u2 hDv
          rcases hx with ⟨rfl, dx⟩ | ⟨T, ws, ds, rfl, hT', rfl, rfl, dx⟩
          · exact ⟨l2, m2, Gr.refl _, dx, trivial⟩
          · have := m2.lay (o := .tup ws) hT' nt_tup
            exact ⟨_, this.1, this.2, .pr (SqT.of upd_same) (dx.grow this.2), trivial⟩
        have hl0 : c.l0.L D = none := by
          cases q : c.l0.L D with
          | none => rfl
          | some o =>
            have := rp1.rt.lh D o (rp1.rt.gr.1 D o q)
            rw [hD] at this
            cases this
        have hw0 : D ∉ mtL c.l0 := u2.wm0 r2
        cases e1 : lc1 g t e vs d S2 with
        | no =>
          rw [bnd_no e1] at eL
          cases eL
        | er x S4 =>
          rw [bnd_er e1] at eL
          cases eL
        | ok y S4 =>
          rw [bnd_ok e1] at eL
          -- what is left
          have next : ∀ (l5 : Lh) (S5 : Lw.S) (σ5 : L2.St) (H5 : Hp) (acc5 : List V) (S6 : Lw.S), Rep K c l5 S5 σ5 H5 → Off (· ∈ vs) (L2.wipe σ vs) σ5 → Gr l3 l5 → H5 D = some (.lst acc5) → DtAll K l5 acc5 (pre ++ y) → Apart c l5 S5 σ5 D → (pre ++ y).length ≤ i + 1 → S4 = { S5 with σ := wipeS vs S5.σ } →
              ∃ l2 S2 acc pre, Rep K c l2 S2 (L2.wipe σ vs) H5 ∧ Gr l1 l2 ∧ H5 D = some (.lst acc) ∧ DtAll K l2 acc pre ∧ pre.length ≤ i + 1 ∧ Apart c l2 S2 (L2.wipe σ vs) D ∧
                ∃ ys S3, lcL g t e vs (xs.drop (i + 1)) S2 = .ok ys S3 ∧ lcL g t e vs xs { S1 with σ := wipeS vs S1.σ } = .ok (pre ++ ys) S3 := by
            intro l5 S5 σ5 H5 acc5 S6 r5 off g5 h5 d5 u5 hp5 e4
            have rw5 := r5.wipe vs
            have uw5 := u5.wipe vs
            rw [wipe_off off] at rw5 uw5
            cases e6 : lcL g t e vs (xs.drop (i + 1)) S4 with
            | no =>
              rw [bnd_no e6] at eL
              cases eL
            | er x S7 =>
              rw [bnd_er e6] at eL
              cases eL
            | ok zs S7 =>
              rw [bnd_ok e6] at eL
              have eL : Res.ok (y ++ zs) S7 = .ok ys S3 := eL
              injection eL with q1 q2
              subst q1 q2
              refine ⟨l5, S4, acc5, pre ++ y, ?_, g2.trans (g3.trans g5), h5, d5, hp5, ?_, zs, S7, e6, ?_⟩
              · rw [e4]
                exact rw5
              · rw [e4]
                exact uw5
              · rw [eT, List.append_assoc]
          unfold lc1 at e1
          refine hG D (.lst acc) _ _ _ _ ⟨l3, S2, d, r3, dx, ?_⟩
          cases eg : g d S2 with
          | no =>
            have q : cl (g d) S2 = .no := by unfold cl; rw [eg]
            rw [bnd_no q] at e1
            cases e1
          | er z Sg =>
            have q : cl (g d) S2 = .no := by unfold cl; rw [eg]
            rw [bnd_no q] at e1
            cases e1
          | ok u Sg =>
            have q : cl (g d) S2 = .ok u Sg := by unfold cl; rw [eg]
            rw [bnd_ok q] at e1
            intro σ4 H4 l4 r4 g4 off4
            refine ⟨wipe_off off4, hT D (.lst acc) _ _ _ ⟨l4, Sg, r4, ?_⟩⟩
            cases et : t Sg with
            | no =>
              rw [bnd_no et] at e1
              cases e1
            | er z St =>
              rw [bnd_er et] at e1
              cases e1
            | ok b St =>
              rw [bnd_ok et] at e1
              intro b' H5 l5 r5 g5 eb
              subst eb
              cases b' with
              | false =>
                rw [if_neg Bool.false_ne_true]
                have e1 : Res.ok ([] : List Lw.D) { St with σ := wipeS vs St.σ } = .ok y S4 := e1
                injection e1 with q1 q2
                obtain ⟨r6, h6, u6⟩ := r5.unmind u2.h hl0 hw0
                exact next l5 St σ4 H5 acc St r6 off4 (g4.trans g5) h6 (by rw [← q1, List.append_nil]; exact dt.grow (g3.trans (g4.trans g5))) u6 (by rw [← q1, List.append_nil]; omega) q2.symm
              | true =>
                rw [if_pos rfl]
                rw [if_pos rfl] at e1
                refine hE D (.lst acc) _ _ _ ⟨l5, St, r5, ?_⟩
                cases ee : e St with
                | no =>
                  rw [bnd_no ee] at e1
                  cases e1
                | er z Se =>
                  rw [bnd_er ee] at e1
                  cases e1
                | ok dy Se =>
                  rw [bnd_ok ee] at e1
                  have e1 : Res.ok [dy] { Se with σ := wipeS vs Se.σ } = .ok y S4 := e1
                  injection e1 with q1 q2
                  intro vy H6 l6 r6 g6 dty
                  obtain ⟨r7, h7, u7⟩ := r6.unmind u2.h hl0 hw0
                  have hi' : pre.length < xs.length := by omega
                  refine ⟨acc, h7, by rw [dt.length]; omega, ?_⟩
                  refine next l6 Se σ4 _ _ Se (r7.wrO u7 h7) off4 (g4.trans (g5.trans g6)) upd_same ?_ u7 (by rw [← q1]; simp; omega) q2.symm
                  rw [← q1]
                  exact (dt.grow (g3.trans (g4.trans (g5.trans g6)))).append (.cons dty .nil)
      · rintro H2 ⟨l2, S2, acc, pre, r2, g2, hDv, dt, _, u2, ys, S3, eL, eT⟩
        rw [List.drop_length] at eL
        cases eL
        rw [List.append_nil] at eT
        rw [eT] at po
        have r3 := rp1.unwipe r2 g2 en
        refine po D acc H2 l2 r3 (g1.trans g2) hDv ⟨u2.nl, u2.h, u2.w, fun i zs e z => ?_⟩ dt
        have e : (Lw.unwipe S1.σ vs S2.σ)[i]? = some (some (.l zs)) := e
        by_cases hv : i ∈ vs
        · obtain ⟨a, ws, h1, h2, _, h4, _, _⟩ := r3.so i zs e
          rw [z] at h1
          injection h1 with h1
          injection h1 with h1
          injection h1 with h1
          have hl : i < S2.σ.length := by
            have := (List.getElem?_eq_some_iff.mp e).1
            rw [unwipe_len] at this
            exact this
          rw [unwipe_in hl hv] at e
          have q := List.all_eq_true.mp en i hv
          cases w : S1.σ[i]? with
          | none =>
            rw [w] at e
            cases e
          | some s =>
            rw [w] at e q
            have e : s = some (.l zs) := by simpa using e
            rw [e] at q
            cases q
        · rw [unwipe_out hv] at e
          exact u2.o i zs e (by rw [wipe_out hv]; exact z)
section
variable {X : Cx} {c : Pk} {W : WX}
/-- the tests of a comprehension -/
structure LQ (X : Cx) (c : Pk) (ifs : List Expr) (t : M Bool) : Prop where
  run : PTs X ifs (liftT X.K c noW t)
theorem lq_nil : LQ X c [] tTrue := ⟨⟨fun pins s σ H Q I ⟨l, S, rp, po⟩ => pts_nil.run pins s σ H Q I (po true H l rp (Gr.refl _) rfl)⟩⟩
theorem lq_one {e : Expr} {t : M Bool} (h : LT X c noW e t) : LQ X c [e] t := ⟨pts_one h⟩
/-- the context of a comprehension's inner part -/
abbrev Blk (X : Cx) (scope : Scope) (P : Cx → Pk → Prop) : Prop := ∀ (s : Shared) (H : Hp) (C : Addr) (cl : List (Str × Addr)) (fp : List Addr) (c : Pk), P (X.blk s H scope (compEnvC scope cl C X.env) fp) c
/-- [e for x in xs if t], a new list. own: the comprehension's names and their slots -/
theorem lf_lc {elt tg iter : Expr} {ifs : List Expr} {scope : Scope} (own : List (Str × Nat)) {pos : Pos} {it : M (List D)} {g : Tg} {t : M Bool} {e : M D} (hc : X.calm = true) (hN : X.N.Nodup) (hi : LI X c W tg iter it) (ok : BlkOk X.N X.env.scope scope own)
    (hg : ∀ (s : Shared) (H : Hp) (C : Addr) (cl : List (Str × Addr)) (fp : List Addr) (c' : Pk), c'.T = c.T → LG (X.blk s H scope (compEnvC scope cl C X.env) fp) c' (· ∈ own.map (·.2)) tg g)
    (ht : ∀ (s : Shared) (H : Hp) (C : Addr) (cl : List (Str × Addr)) (fp : List Addr) (c' : Pk), c'.T = c.T → LQ (X.blk s H scope (compEnvC scope cl C X.env) fp) c' ifs t)
    (he : ∀ (s : Shared) (H : Hp) (C : Addr) (cl : List (Str × Addr)) (fp : List Addr) (c' : Pk), c'.T = c.T → LE (X.blk s H scope (compEnvC scope cl C X.env) fp) c' noW elt e)
    (hs : ∀ x, foldedSetIterable iter X.env x = pure x := by intro _; rfl) : LF X c W (.ListComp elt [⟨tg, iter, ifs, 0⟩] scope pos) (mLc it g t e (own.map (·.2))) :=
  PE.imp (pe_lc (own := own) (g := fun x σ H Q => ∃ p a, liftTg X.K (c.and p a) (· ∈ own.map (·.2)) g x σ H Q) (tt := fun σ H Q => ∃ p a, liftT X.K (c.and p a) noW t σ H Q) (te := fun σ H Q => ∃ p a, liftE X.K (c.and p a) noW e σ H Q) hc hN hi ok
    (fun s H C cl fp => ⟨fun pins s' σ H' v u Q I r ⟨p, a, q⟩ => (hg s H C cl fp (c.and p a) rfl).run pins s' σ H' v u Q I r q⟩)
    (fun s H C cl fp => ⟨fun pins s' σ H' Q I ⟨p, a, q⟩ => (ht s H C cl fp (c.and p a) rfl).run.run pins s' σ H' Q I q⟩)
    (fun s H C cl fp => ⟨fun pins s' σ H' Q I ⟨p, a, q⟩ => (he s H C cl fp (c.and p a) rfl).run pins s' σ H' Q I q⟩) hs) fun σ H Q h => lc_imp (fun p a x σ H Q q => ⟨p, a, q⟩) (fun p a σ H Q q => ⟨p, a, q⟩) (fun p a σ H Q q => ⟨p, a, q⟩) h
/-- y = [e for x in xs if t] on one line: a value -/
theorem ls_lc (i : Nat) {y : Str} {py spos : Pos} {elt tg iter : Expr} {ifs : List Expr} {scope : Scope} (own : List (Str × Nat)) {pos : Pos} {it : M (List D)} {g : Tg} {t : M Bool} {e : M D} (hc : X.calm = true) (hN : X.N.Nodup) (hsw : swapsWith (.ListComp elt [⟨tg, iter, ifs, 0⟩] scope pos) (some (.Name y py)) spos.line X.env = pure true) (hi : LI X c W tg iter it) (ok : BlkOk X.N X.env.scope scope own)
    (hg : ∀ (s : Shared) (H : Hp) (C : Addr) (cl : List (Str × Addr)) (fp : List Addr) (c' : Pk), c'.T = c.T → LG (X.blk s H scope (compEnvC scope cl C X.env) fp) c' (· ∈ own.map (·.2)) tg g)
    (ht : ∀ (s : Shared) (H : Hp) (C : Addr) (cl : List (Str × Addr)) (fp : List Addr) (c' : Pk), c'.T = c.T → LQ (X.blk s H scope (compEnvC scope cl C X.env) fp) c' ifs t)
    (he : ∀ (s : Shared) (H : Hp) (C : Addr) (cl : List (Str × Addr)) (fp : List Addr) (c' : Pk), c'.T = c.T → LE (X.blk s H scope (compEnvC scope cl C X.env) fp) c' noW elt e)
    (hy : X.N[i]? = some y := by rfl) (hyl : X.env.scope.names.lookup y = some .local := by rfl) (hs : ∀ x, foldedSetIterable iter X.env x = pure x := by intro _; rfl) :
    PS X (.Assign [.Name y py] (.ListComp elt [⟨tg, iter, ifs, 0⟩] scope pos) spos) (tAsg (liftF X.K c W (mLc it g t e (own.map (·.2)))) (gName i)) :=
  PS.imp (ps_setLc (own := own) (g := fun x σ H Q => ∃ p a, liftTg X.K (c.and p a) (· ∈ own.map (·.2)) g x σ H Q) (tt := fun σ H Q => ∃ p a, liftT X.K (c.and p a) noW t σ H Q) (te := fun σ H Q => ∃ p a, liftE X.K (c.and p a) noW e σ H Q) hc hN hy hyl hsw hi ok
    (fun s H C cl fp => ⟨fun pins s' σ H' v u Q I r ⟨p, a, q⟩ => (hg s H C cl fp (c.and p a) rfl).run pins s' σ H' v u Q I r q⟩)
    (fun s H C cl fp => ⟨fun pins s' σ H' Q I ⟨p, a, q⟩ => (ht s H C cl fp (c.and p a) rfl).run.run pins s' σ H' Q I q⟩)
    (fun s H C cl fp => ⟨fun pins s' σ H' Q I ⟨p, a, q⟩ => (he s H C cl fp (c.and p a) rfl).run pins s' σ H' Q I q⟩) hs) fun D σ H h => lc_imp (fun p a x σ H Q q => ⟨p, a, q⟩) (fun p a σ H Q q => ⟨p, a, q⟩) (fun p a σ H Q q => ⟨p, a, q⟩) h
/-- x = a new list, as a value -/
theorem setF_imp {i : Nat} {m : M (List D)} {D : Ends} {σ : L2.St} {H : Hp} (h : liftS X.K c W (sAsg (mF m) (gV i)) D σ H) : tAsg (liftF X.K c W m) (gName i) D σ H := by
  obtain ⟨l, S, rp, po⟩ := h
  refine f_imp (m := m) ⟨l, S, rp, Po.bindS (R := Dt X.K) po fun d S1 v H1 l1 _ rp1 g1 q1 po1 => ?_⟩
  by_cases hi2 : i < S1.σ.length
  · have e' : cl (gV i d) S1 = .ok () { S1 with σ := S1.σ.set i (some (.d d)) } := by
      unfold cl gV putS
      rw [if_pos hi2]
    rw [bnd_ok e'] at po1
    exact po1 _ H1 l1 (rp1.set q1) (Gr.refl _)
  · have e' : cl (gV i d) S1 = .no := by
      unfold cl gV putS
      rw [if_neg hi2]
    rw [bnd_no e'] at po1
    exact po1.elim
theorem ls_setF {i : Nat} {st : Stmt} {m : M (List D)} (h : PS X st (tAsg (liftF X.K c W m) (gName i))) : LS X c W st (sAsg (mF m) (gV i)) := PS.imp h fun D σ H h => setF_imp h
theorem ls_ownF {i : Nat} {st : Stmt} {m : M (List D)} (h : PS X st (tAsg (liftF X.K c W m) (gName i))) : LS X c W st (sOwn i m) := PS.imp h fun D σ H h => own_imp h
end
end Lw

set_option Elab.async false
set_option linter.all false
set_option maxRecDepth 100000
set_option maxHeartbeats 4000000
/-! Lw: isinstance, repr, a slot's own list written. -/
namespace Lw
open PySem PySem.Spec PyProof.Rows L2

section
variable {X : Cx} {c : Pk} {W : WX} {K : PySem.W.Frag}
/-! ### isinstance of built-in classes -/
theorem tyX_of {l : Lh} {H : Hp} {v : V} {d : D} {a : String} (x : Ext l.L H) (r : Rv K l H v d) (e : tyD d = some a) : TyX K H v (.type a) := by
  rcases r with r | ⟨p, vs, ds, rfl, rfl, h, _⟩
  · cases r with
    | non =>
      cases e
      exact .base .non
    | bl b =>
      cases e
      exact .base (.bl b)
    | int i =>
      cases e
      exact .base (.int i)
    | str i =>
      cases e
      exact .base (.str i)
    | lst h _ =>
      cases e
      exact .base (.lst (x _ _ h))
    | tup h _ =>
      cases e
      rcases x.sqT h.sqT with (h | ⟨o, h⟩) | ⟨o, its, n, h1, h2, _⟩
      · exact .base (.tup h)
      · exact .fTuple h
      · exact .kTuple h1 h2
    | dct h =>
      cases e
      exact .base (.dK (x _ _ h))
    | scr h =>
      cases e
      rcases x.sqL h with (h | ⟨o, h⟩) | ⟨o, its, n, h1, h2, _⟩
      · exact .base (.lst h)
      · exact .base (.frz h)
      · exact .kList h1 h2
    | _ => cases e
  · cases e
    exact .base (.lst h)
/-- the classes that are asked for -/
def askable (t : String) : Bool := ["NoneType", "bool", "int", "str", "tuple", "list", "dict"].all fun a => decide (kitB a t = some (subT a t))
theorem kit_of_ask {t a : String} {d : D} (h : askable t = true) (e : tyD d = some a) : kitB a t = some (subT a t) := by
  unfold askable at h
  have q := List.all_eq_true.mp h
  have m : a ∈ ["NoneType", "bool", "int", "str", "tuple", "list", "dict"] := by
    cases d <;> cases e <;> simp
  exact of_decide_eq_true (q a m)
theorem ask_int : askable "int" = true := by decide +kernel
theorem ask_bool : askable "bool" = true := by decide +kernel
theorem ask_str : askable "str" = true := by decide +kernel
theorem ask_list : askable "list" = true := by decide +kernel
theorem ask_tuple : askable "tuple" = true := by decide +kernel
theorem ask_dict : askable "dict" = true := by decide +kernel
/-- isinstance(e, T) -/
theorem le_isT {e : Expr} {o : Opd} {x : Str} {t : String} {p q pos : Pos} (ha : askable t = true) (hm : X.mg "isinstance" = none) (hx : X.mg x = none) (h : LO X c W e o) (hv : bootBuiltins x = some (.type t) := by decide +kernel) (hg : Gl X "isinstance" := by rfl) (hgx : Gl X x := by rfl)
    (hn : x ≠ "__name__" := by decide) (hd : (x == ("__debug__" : Str)) = false := by decide) (hs : starEach [e, .Name x q] X.env = (false, eval e X.env) :: starEach [.Name x q] X.env := by rfl) (hs2 : starEach [.Name x q] X.env = (false, eval (.Name x q) X.env) :: starEach [] X.env := by rfl)
    (hpl : (backTo pos (starEach [.Name x q] X.env)).any (·.1) = false := by rfl) : LE X c W (.Call (.Name "isinstance" p) [e, .Name x q] [] pos) (m1 (dIsT t) o) :=
  PE.imp (pe_callB call_isi hg hm boot_isinstance (pa_cons h (pa_cons (pe_bltn (v := .ty t) hgx hx hv rfl hn hd) pa_nil hs2) hs) (he := hs) (hpl := hpl)) fun σ H Q ⟨l, S, rp, po⟩ => by
    refine ⟨l, S, rp, Po.bind (R := RO X.K σ o) po fun y S1 v H1 l1 _ rp1 g1 q1 po1 => ?_⟩
    obtain ⟨d, rv, po2⟩ := Po.rd rp1 (Gr.refl _) q1 po1
    obtain ⟨z, ez, po3⟩ := Po.opt po2
    unfold dIsT at ez
    cases et : tyD d with
    | none =>
      rw [et] at ez
      cases ez
    | some a =>
      rw [et] at ez
      cases ez
      exact ⟨v, .ty t, .type a, .type t, subT a t, rfl, .ty t, tyX_of rp1.rt.lh rv et, kit_ty (kit_of_ask ha et), po3 _ H1 l1 rp1 (Gr.refl _) (.bl _)⟩
/-- isinstance(e, (T, U)) -/
theorem le_isT2 {e : Expr} {o : Opd} {x y : Str} {t u : String} {p q r s pos : Pos} {k} (ha : askable t = true) (hb : askable u = true) (hm : X.mg "isinstance" = none) (hx : X.mg x = none) (hy : X.mg y = none) (h : LO X c W e o) (hv : bootBuiltins x = some (.type t) := by decide +kernel) (hw : bootBuiltins y = some (.type u) := by decide +kernel)
    (hg : Gl X "isinstance" := by rfl) (hgx : Gl X x := by rfl) (hgy : Gl X y := by rfl) (hn : x ≠ "__name__" := by decide) (hd : (x == ("__debug__" : Str)) = false := by decide) (hn2 : y ≠ "__name__" := by decide) (hd2 : (y == ("__debug__" : Str)) = false := by decide)
    (hs : starEach [e, .Tuple [.Name x q, .Name y r] k s] X.env = (false, eval e X.env) :: starEach [.Tuple [.Name x q, .Name y r] k s] X.env := by rfl) (hs2 : starEach [.Tuple [.Name x q, .Name y r] k s] X.env = (false, eval (.Tuple [.Name x q, .Name y r] k s) X.env) :: starEach [] X.env := by rfl)
    (hs3 : starEach [.Name x q, .Name y r] X.env = (false, eval (.Name x q) X.env) :: starEach [.Name y r] X.env := by rfl) (hs4 : starEach [.Name y r] X.env = (false, eval (.Name y r) X.env) :: starEach [] X.env := by rfl)
    (hpl : (backTo pos (starEach [.Tuple [.Name x q, .Name y r] k s] X.env)).any (·.1) = false := by rfl) : LE X c W (.Call (.Name "isinstance" p) [e, .Tuple [.Name x q, .Name y r] k s] [] pos) (m1 (dIsT2 t u) o) :=
  PE.imp (pe_callB call_isiT hg hm boot_isinstance (pa_cons h (pa_cons (pe_tup (pa_cons (pe_bltn (v := .ty t) hgx hx hv rfl hn hd) (pa_cons (pe_bltn (v := .ty u) hgy hy hw rfl hn2 hd2) pa_nil hs4) hs3)) pa_nil hs2) hs) (he := hs) (hpl := hpl)) fun σ H Q ⟨l, S, rp, po⟩ => by
    refine ⟨l, S, rp, Po.bind (R := RO X.K σ o) po fun y S1 v H1 l1 _ rp1 g1 q1 po1 => ?_⟩
    refine ⟨by show 2 ≤ sizeLine; decide, fun T hT => ?_⟩
    have lay := rp1.lay (o := .tup [.ty t, .ty u]) hT nt_tup
    have po1 := Po.grow lay.2 po1
    obtain ⟨d, rv, po2⟩ := Po.rd lay.1 (Gr.refl _) (q1.grow lay.2) po1
    obtain ⟨z, ez, po3⟩ := Po.opt po2
    unfold dIsT2 at ez
    cases et : tyD d with
    | none =>
      rw [et] at ez
      cases ez
    | some a =>
      rw [et] at ez
      cases ez
      refine ⟨v, T, [.ty t, .ty u], .type a, [.type t, .type u], subT a t || subT a u, rfl, upd_same, .cons (.ty t) (.cons (.ty u) .nil), tyX_of lay.1.rt.lh rv et, ?_, po3 _ _ _ lay.1 (Gr.refl _) (.bl _)⟩
      refine kitAny_cons (kit_ty (kit_of_ask ha et)) (fun h1 => ?_) (fun h1 => by rw [h1]; rfl)
      rw [h1]
      exact kitAny_cons (kit_ty (kit_of_ask hb et)) (fun h2 => by rw [h2]; rfl) (fun h2 => by rw [h2]; rfl)

/-! ### repr -/
theorem pairs_keys {P : Program} {w : World} : ∀ {es : List DictEntry} {kvs : List (Key × V)} {vs : List (Key × Value)}, KV kvs vs → Pairs (mixKind P w) es vs → Vals (kvs.map fun kv => kV kv.1) (es.map (·.key)) ∧ Vals (kvs.map (·.2)) (es.map (·.val))
  | _, _, _, .nil, .nil => ⟨.nil, .nil⟩
  | _, _, _, .cons r t, .cons h1 e2 p => by
    obtain ⟨q1, q2⟩ := pairs_keys t p
    have h1 : keyIs _ _ = true := h1
    rw [← r.1] at h1
    have h2 := r.2
    rw [← e2] at h2
    exact ⟨.cons (keyIs_rel h1) q1, .cons h2 q2⟩
theorem toPk_fst : ∀ (ks ds : List D), ks.length = ds.length → (toPk (ks.zip ds)).map (·.1) = toPs ks ∧ (toPk (ks.zip ds)).map (·.2) = toPs ds
  | [], [], _ => by simp [toPk, toPs]
  | k :: ks, d :: ds, h => by
    obtain ⟨h1, h2⟩ := toPk_fst ks ds (by simpa using h)
    simp [toPk, toPs, h1, h2]
theorem showsKv_of : ∀ (ks ds : List D), ks.length = ds.length → showsKv (ks.zip ds) = true → showsAll ks = true ∧ showsAll ds = true
  | [], [], _, _ => by simp [showsAll]
  | k :: ks, d :: ds, h, e => by
    simp only [List.zip_cons_cons, showsKv, Bool.and_eq_true] at e
    obtain ⟨h1, h2⟩ := showsKv_of ks ds (by simpa using h) e.2
    simp [showsAll, h1, h2, e.1.1, e.1.2]
mutual
theorem reads_of {pins : List (Addr × Obj)} {σ : L2.St} {H : Hp} {s : Shared} {l : Lh} (I : Inv X pins σ H s) (x : Ext l.L H) (sm : ∃ ob, H sysModules = some (.frz ob (.own sysModules))) : ∀ {v : V} {d : D} {u : Value}, Dt X.K l v d → shows d = true → RelV v u → ∃ as, Reads s.heap u (toP d) as ∧ sysModules ∉ as
  | _, _, _, .non, _, r => by
    cases r
    unfold toP
    exact ⟨_, .none, by simp⟩
  | _, _, _, .bl b, _, r => by
    cases r
    unfold toP
    exact ⟨_, .bool b, by simp⟩
  | _, _, _, .int i, _, r => by
    obtain ⟨t, rfl⟩ := r
    unfold toP
    exact ⟨_, .int i t, by simp⟩
  | _, _, _, .str i, _, r => by
    obtain ⟨t, rfl⟩ := r
    unfold toP
    exact ⟨_, .str i t, by simp⟩
  | _, _, _, .lst (a := a) h q, e, r => by
    cases r
    unfold shows at e
    obtain ⟨_, its, n, rv, e1⟩ := I.hok a _ (x _ _ h)
    obtain ⟨as, r1, n1⟩ := reads_all I x sm q e rv
    unfold toP
    refine ⟨a :: as, .list e1 rfl rfl (by simpa using r1), fun z => ?_⟩
    rcases List.mem_cons.mp z with z | z
    · rw [← z] at h
      have := x _ _ h
      obtain ⟨ob, sm⟩ := sm
      rw [sm] at this
      cases this
    · exact n1 z
  | _, _, _, .tup (a := a) h q, e, r => by
    cases r
    unfold shows at e
    obtain ⟨its, rv, ⟨o, h1, h2, n, h3⟩, _⟩ := I.tuple (x.sqT h.sqT)
    obtain ⟨as, r1, n1⟩ := reads_all I x sm q e rv
    unfold toP
    exact ⟨as, .tuple h1 h2 h3 (by simpa using r1), n1⟩
  | _, _, _, .dct (a := a) (ks := ks) (ds := ds) h ev q1 q2, e, r => by
    cases r
    unfold shows at e
    have hl : ks.length = ds.length := by
      rw [← q1.length, ← q2.length, ev]
      simp
    obtain ⟨e1, e2⟩ := showsKv_of ks ds hl e
    obtain ⟨_, hs, vs, kv, o, es, ep, h1, h2, h3, _, pr, _⟩ := I.hok a _ (x _ _ h)
    obtain ⟨v1, v2⟩ := pairs_keys kv pr
    obtain ⟨as, r1, n1⟩ := reads_all I x sm q1 e1 v1
    obtain ⟨bs, r2, n2⟩ := reads_all I x sm q2 e2 (ev ▸ v2)
    unfold toP
    obtain ⟨k1, k2⟩ := toPk_fst ks ds hl
    refine ⟨a :: as ++ bs, .dict h1 h2.1 h3 (by rw [k1]; exact r1) (by rw [k2]; exact r2), fun z => ?_⟩
    simp only [List.cons_append, List.mem_cons, List.mem_append] at z
    rcases z with z | z | z
    · rw [← z] at hs
      simp at hs
    · exact n1 z
    · exact n2 z
  | _, _, _, .pr .., e, _ => by
    unfold shows at e
    cases e
  | _, _, _, .obj .., e, _ => by
    unfold shows at e
    cases e
  | _, _, _, .exc0 .., e, _ => by
    unfold shows at e
    cases e
  | _, _, _, .exc1 .., e, _ => by
    unfold shows at e
    cases e
  | _, _, _, .dm .., e, _ => by
    unfold shows at e
    cases e
  | _, _, _, .scr .., e, _ => by
    unfold shows at e
    cases e
theorem reads_all {pins : List (Addr × Obj)} {σ : L2.St} {H : Hp} {s : Shared} {l : Lh} (I : Inv X pins σ H s) (x : Ext l.L H) (sm : ∃ ob, H sysModules = some (.frz ob (.own sysModules))) : ∀ {vs : List V} {ds : List D} {us : List Value}, DtAll X.K l vs ds → showsAll ds = true → Vals vs us → ∃ as, ReadsAll s.heap us (toPs ds) as ∧ sysModules ∉ as
  | _, _, _, .nil, _, r => by
    cases r
    unfold toPs
    exact ⟨_, .nil, by simp⟩
  | _, _, _, .cons h q, e, r => by
    cases r with
    | cons r1 r2 =>
      unfold showsAll at e
      obtain ⟨e1, e2⟩ := Bool.and_eq_true_iff.mp e
      obtain ⟨as, k1, n1⟩ := reads_of I x sm h e1 r1
      obtain ⟨bs, k2, n2⟩ := reads_all I x sm q e2 r2
      unfold toPs
      exact ⟨as ++ bs, .cons k1 k2, fun z => (List.mem_append.mp z).elim n1 n2⟩
end
/-- what repr asks -/
def rRep2 (K : PySem.W.Frag) : List V → Hp → VK → Prop := fun xs H Q => ∃ v d l, xs = [v] ∧ isRef d = true ∧ shows d = true ∧ (toP d).showable = true ∧ (toP d).depth ≤ 50 ∧ (toP d).shown.length ≤ line ∧ Ext l.L H ∧ (∃ ob, H sysModules = some (.frz ob (.own sysModules))) ∧ Rv K l H v d ∧ Q (.str (toP d).shown) H
theorem call_rep2 (gd : X.A.guards = some []) (hu : X.A.units + 64 < cLine) : CallR X (.builtin "repr") (rRep2 X.K) := by
  intro pins s σ H xs us Q I r h
  obtain ⟨v, d, l, rfl, hr, hs, h1, h2, h3, x, sm, rv, q⟩ := h
  obtain ⟨u, rfl, ru⟩ := vals1 r
  have main : (∃ as a, u = .ref a ∧ Reads s.heap u (toP d) as ∧ sysModules ∉ as) ∨ wpAny (model X.prog X.w) X.A (PySem.call (.builtin "repr") [u]) (EP X pins σ Q) X.xe s := by
    rcases rv with rv | ⟨a, vs, ds, rfl, rfl, ha, hd⟩
    · obtain ⟨as, k1, k2⟩ := reads_of I x sm rv hs ru
      cases rv with
      | lst => exact .inl ⟨as, _, ru, k1, k2⟩
      | tup => exact .inl ⟨as, _, ru, k1, k2⟩
      | dct => exact .inl ⟨as, _, ru, k1, k2⟩
      | non =>
        cases ru
        exact .inr (PySem.P.repr_of_none ⟨.str _, H, I.tok _, ⟨_, rfl⟩, q⟩)
      | bl b =>
        cases ru
        exact .inr (PySem.P.repr_of_bool ⟨.str _, H, I.tok _, ⟨_, rfl⟩, q⟩)
      | int i =>
        obtain ⟨t, rfl⟩ := ru
        exact .inr (PySem.P.repr_of_int (of_decide_eq_true h1) ⟨.str _, H, I.tok _, ⟨_, rfl⟩, q⟩)
      | str i =>
        obtain ⟨t, rfl⟩ := ru
        exact .inr (PySem.P.repr_of_str ⟨.str _, H, I.tok _, ⟨_, rfl⟩, q⟩ (by rw [sizeLine_eq]; exact h3))
      | _ => cases hr
    · cases ru
      unfold shows at hs
      obtain ⟨_, its, n, rv, e1⟩ := I.hok a _ ha
      obtain ⟨as, r1, n1⟩ := reads_all I x sm hd hs rv
      unfold toP
      refine .inl ⟨a :: as, a, rfl, .list e1 rfl rfl (by simpa using r1), fun z => ?_⟩
      rcases List.mem_cons.mp z with z | z
      · obtain ⟨ob, sm⟩ := sm
        rw [← z, sm] at ha
        cases ha
      · exact n1 z
  rcases main with ⟨as, a, rfl, k1, k2⟩ | main
  case inr => exact main
  refine repr_of_reads' k1 h1 (fun _ => k2) gd (by omega) (fun _ _ e => e) (fun h' t tk hk => ⟨.str (toP d).shown, H, I.kept hk, ⟨_, rfl⟩, q⟩) (by rw [sizeLine_eq]; exact h3)
theorem le_repr {a : Expr} {o : Opd} {p pos : Pos} (gd : X.A.guards = some []) (hu : X.A.units + 64 < cLine) (hm : X.mg "repr" = none) (ha : LO X c W a o) (hg : Gl X "repr" := by rfl) (he : starEach [a] X.env = (false, eval a X.env) :: starEach [] X.env := by rfl) : LE X c W (.Call (.Name "repr" p) [a] [] pos) (mBi dRepr [o]) :=
  PE.imp (pe_callB (call_rep2 gd hu) hg hm boot_repr (los_cons ha los_nil he) (he := he)) fun σ H Q ⟨l, S, rp, po⟩ => by
    refine ⟨l, S, rp, Po.bind (R := ROs X.K σ [o]) po fun xs S1 vs H1 l1 _ rp1 g1 q1 po1 => ?_⟩
    obtain ⟨as, ra, po2⟩ := Po.rds rp1 (Gr.refl _) q1 po1
    obtain ⟨d, e, po3⟩ := Po.opt po2
    have one : ∃ a, as = [a] := by
      unfold dRepr at e
      split at e
      · exact ⟨_, rfl⟩
      · cases e
    obtain ⟨a, rfl⟩ := one
    obtain ⟨v, rfl, rr⟩ := ra.one
    have e : (if isRef a = true ∧ shows a = true ∧ (toP a).showable = true ∧ (toP a).depth ≤ 50 ∧ (toP a).shown.length ≤ line then some (D.str (toP a).shown) else none) = some d := e
    split at e
    · rename_i q
      cases e
      exact ⟨v, a, l1, rfl, q.1, q.2.1, q.2.2.1, q.2.2.2.1, q.2.2.2.2, rp1.rt.lh, rp1.rt.sm, rr, po3 _ H1 l1 rp1 (Gr.refl _) (.str _)⟩
    · cases e

/-! ### a slot's own list is written -/
theorem ls_app (i : Nat) {x : Str} {e : Expr} {m : M D} {px apos cpos pos : Pos} (h : LE X c W e m) (hN : X.N[i]? = some x := by rfl) (hv : Vis X.env.scope x := by first | exact Or.inl rfl | exact Or.inr (Or.inl rfl) | exact Or.inr (Or.inr rfl)) (hd : (x == ("__debug__" : Str)) = false := by decide) (hcd : (x == ("__classdict__" : Str)) = false := by decide)
    (hbase : attributeBase (.Name x px) "append" X.env (eval (.Name x px) X.env) = eval (.Name x px) X.env := by rfl)
    (hfew : ((backTo cpos (starEach [e] X.env)).all (fun x => !x.1) && (backToKw cpos (keywordEach [] X.env)).all (fun x => x.1.isSome) && decide ([e].length + ([] : List Keyword).length + (if ([] : List Keyword).isEmpty then 0 else 1) < 30)) = true := by rfl)
    (hline : (apos.endLine == cpos.line) = true := by rfl) (hs : starEach [e] X.env = (false, eval e X.env) :: starEach [] X.env := by rfl) (hsw : swapsWith (.Call (.Attribute (.Name x px) "append" apos) [e] [] cpos) none pos.line X.env = pure false := by rfl) :
    LS X c W (.Expr (.Call (.Attribute (.Name x px) "append" apos) [e] [] cpos) pos) (sApp i m) :=
  PS.imp (ps_expr (pe_bm PySem.F.plainAttrs_list PySem.F.slot_list_append PySem.F.type_list_append mt_append (pv i hN hv hd hcd) (pa_cons h pa_nil hs) hbase hfew hline hs) hsw) fun D σ H ⟨l, S, rp, po⟩ => by
    have po : PoS X.K c W l D (match S.σ[i]? with
      | some (some (.l _)) => bnd m (apS i) S
      | _ => .no) := po
    split at po
    · rename_i xs0 e0
      obtain ⟨a, ws, h1, h2, h3, h4, h5, h6⟩ := rp.so i xs0 e0
      refine ⟨.ref a, h1, .inl ⟨rfl, _, SqL.of h2⟩, l, S, rp, Po.bindS (R := Dt X.K) po fun d S1 v H1 l1 _ rp1 g1 q1 po1 => ?_⟩
      have po1 : PoS X.K c W l1 D (match S1.σ[i]? with
        | some (some (.l xs)) => if xs.length < 16777216 then Res.ok .nx { S1 with σ := S1.σ.set i (some (.l (xs ++ [d]))) } else Res.no
        | _ => Res.no) := po1
      split at po1
      · rename_i xs1 e1
        split at po1
        · rename_i hz
          obtain ⟨a', ws', k1, k2, k3, k4, k5, k6⟩ := rp1.so i xs1 e1
          have ea : a' = a := by
            rw [h1] at k1
            injection k1 with k1
            injection k1 with k1
            injection k1 with k1
            exact k1.symm
          subst ea
          refine ⟨a', ws', v, rfl, rfl, k2, by rw [k3.length, sizeLine_eq]; exact hz, ?_⟩
          exact po1 σ _ l1 (rp1.wr e1 h1 (k3.append (.cons q1 .nil))) (Gr.refl _)
        · exact po1.elim
      · exact po1.elim
    · exact po.elim
theorem ixOf_eq (n : Nat) (k : Int) : ixOf n k = ixN n k := by
  unfold ixOf ixN
  rfl
theorem lg_ix (i : Nat) {x : Str} {b : Expr} {k : M D} {px pos : Pos} {vs : Nat → Prop} (hk : LE X c noW b k) (hN : X.N[i]? = some x := by rfl) (hv : Vis X.env.scope x := by first | exact Or.inl rfl | exact Or.inr (Or.inl rfl) | exact Or.inr (Or.inr rfl)) (hd : (x == ("__debug__" : Str)) = false := by decide) (hcd : (x == ("__classdict__" : Str)) = false := by decide)
    (ha : ∀ v, assign (.Subscript (.Name x px) b pos) X.env v = (do
      let ov ← holding [v] (eval (.Name x px) X.env)
      let iv ← holding [v, ov] (eval b X.env)
      standAt pos
      holding [v, ov, iv] (setItem ov iv v)
      release [v, ov, iv] []) := by intro _; rfl) : LG X c vs (.Subscript (.Name x px) b pos) (gIx i k) :=
  ⟨fun pins s σ H v u Q I r ⟨l, S, d, rp, dt, q⟩ => (pg_sub (pv i hN hv hd hcd) hk set_list ha).run pins s σ H v u Q I r (by
    have q : match (match S.σ[i]? with
        | some (some (.l _)) => bnd k (ixS i d) S
        | _ => .no) with
      | .ok _ S' => ∀ σ' H' l', Rep X.K c l' S' σ' H' → Gr l l' → Off vs σ σ' → Q σ' H'
      | _ => False := q
    split at q
    case h_2 => exact q.elim
    case h_1 S' e =>
      split at e
      · rename_i xs0 e0
        obtain ⟨a, ws, h1, h2, h3, h4, h5, h6⟩ := rp.so i xs0 e0
        refine ⟨.ref a, h1, l, S, rp, ?_⟩
        cases ek : k S with
        | no =>
          rw [bnd_no ek] at e
          cases e
        | er y S1 =>
          rw [bnd_er ek] at e
          cases e
        | ok z S1 =>
          rw [bnd_ok ek] at e
          intro vi H1 l1 rp1 g1 dz
          have e : (match z, S1.σ[i]? with
            | .int k, some (some (.l xs)) => (match ixOf xs.length k with
              | some j => Res.ok () { S1 with σ := S1.σ.set i (some (.l (xs.set j d))) }
              | none => .no)
            | _, _ => .no) = .ok _ S' := e
          split at e
          · rename_i kk xs1 e1 _
            split at e
            · rename_i j ej
              injection e with _ e
              subst e
              cases dz
              obtain ⟨a', ws', k1, k2, k3, k4, k5, k6⟩ := rp1.so i xs1 e1
              have ea : a' = a := by
                rw [h1] at k1
                injection k1 with k1
                injection k1 with k1
                injection k1 with k1
                exact k1.symm
              subst ea
              refine ⟨a', ws', kk, j, rfl, rfl, k2, by rw [k3.length, ← ixOf_eq]; exact ej, ?_⟩
              exact q σ _ l1 (rp1.wr e1 h1 (k3.set (dt.grow g1) j)) g1 (Off.refl _ _)
            · cases e
          · cases e
      · cases e)⟩
end
end Lw

set_option Elab.async false
set_option linter.all false
set_option maxRecDepth 100000
set_option maxHeartbeats 4000000
/-! Lw: own exceptions whose __init__ says super().__init__(text) and, perhaps, self.f = f. -/
namespace Lw
open PySem PySem.Spec PyProof.Rows L2
open PySem.W (kxs_mw ksEnv ksFn ks_superObj ks_superIn excObj excTup KxsFacts)

/-- what is known of the built-in class below -/
structure ExB (B newId initId : String) (bmB : List Value) : Prop where
  fb : ExcBaseFacts B newId initId bmB
  kx : KxsFacts B initId
  sf : StoreFacts B bmB "object.__setattr__" "object"
theorem exb_V : ExB "ValueError" "ValueError.__new__" "ValueError.__init__" [.type "ValueError", .type "Exception", .type "BaseException", .type "object"] := ⟨F.excBase_ValueError, PySem.W.kxs_ValueError, F.store_ValueError⟩
theorem exb_R : ExB "RuntimeError" "RuntimeError.__new__" "RuntimeError.__init__" [.type "RuntimeError", .type "Exception", .type "BaseException", .type "object"] := ⟨F.excBase_RuntimeError, PySem.W.kxs_RuntimeError, by first | exact F.store_RuntimeError | exact PySem.W.store_RuntimeError⟩
theorem exb_O : ExB "OverflowError" "OverflowError.__new__" "OverflowError.__init__" [.type "OverflowError", .type "ArithmeticError", .type "Exception", .type "BaseException", .type "object"] := ⟨F.excBase_OverflowError, PySem.W.kxs_OverflowError, by first | exact F.store_OverflowError | exact PySem.W.store_OverflowError⟩

/-! ### the text of __init__ -/
def iA0 (p1 : Pos) : Arguments := { posonlyargs := [], args := [{ arg := "self", annotation := none, pos := p1 }], vararg := none, kwonlyargs := [], kw_defaults := [], kwarg := none, defaults := [] }
def iA1 (f : Str) (p1 p2 : Pos) : Arguments := { posonlyargs := [], args := [{ arg := "self", annotation := none, pos := p1 }, { arg := f, annotation := none, pos := p2 }], vararg := none, kwonlyargs := [], kw_defaults := [], kwarg := none, defaults := [] }
def iS0 (tx : Str) (j : Nat) (q1 q2 q3 q4 q5 q6 : Pos) : Stmt := .Expr (.Call (.Attribute (.Call (.Name "super" q1) [] [] q2) "__init__" q3) [.Constant (.str tx) j q4] [] q5) q6
def iS1 (f : Str) (q1 q2 q3 q4 : Pos) : Stmt := .Assign [.Attribute (.Name "self" q1) f q2] (.Name f q3) q4

/-- no third party's class is about -/
def NoTP (h : Heap) : Prop := ∃ K2 : PySem.W.Frag, K2.In h ∧ PySem.W.nsIn K2 cStatics "thirdparty.any" = some none
theorem NoTP.keeps {h h' : Heap} (t : NoTP h) (k : ∀ b o, h.get? b = some o → h'.get? b = some o) : NoTP h' := let ⟨K2, x, e⟩ := t; ⟨K2, x.keeps k, e⟩
/-- what the written part says of a class of an exception, at C, and of its __init__, at fI -/
structure ExK (P : Program) (K : PySem.W.Frag) (C fI cc cda : Addr) (B newId initId : String) (bmB : List Value) (q : Str) (scope : Scope) : Prop where
  b : ExB B newId initId bmB
  cls : PySem.W.excInitIn K C bmB newId = true
  ov : PySem.W.excOver K C bmB = true
  hd : PySem.W.hasDictIn K C = true
  sa : PySem.W.findIn K (.ref C) "__setattr__" = some (some (.builtin "object.__setattr__"))
  ini : PySem.W.findIn K (.ref C) "__init__" = some (some (.ref fI))
  tyI : PySem.W.typeIn K (.ref fI) = some (.type "function")
  kC : PySem.W.keepIn K (.ref C) = true
  exC : PySem.W.subIn K (.ref C) (.type "BaseException") = some true
  sB : PySem.W.subIn K (.ref C) (.type B) = some true
  tyC : PySem.W.typeIn K (.ref C) = some (.type "type")
  own : PySem.W.mroIn K C (.ref C) = some true
  sup : ks_superIn K C C "__init__" = some (some (.builtin initId))
  gsu : PySem.W.nsIn K mainGlobals "super" = some none
  cell : ∃ cl cld csl, K.lookup cc = some ⟨cl, cld, .cell (some (.ref C)), csl⟩
  code : ∃ ccl cdd vs ccs file tf, K.lookup cda = some ⟨ccl, cdd, .fields vs, ccs⟩ ∧ vs[2]? = some (.str file tf) ∧ ((P.main.file : Str) == file) = true
  cdi : PySem.W.codeIn K (.ref cda) q = true
  top : (P.main.scope.names.lookup ("super" : Str)).isSome = false
  ks : scope.names.lookup ("super" : Str) = some .globalImplicit
  kc : scope.names.lookup ("__class__" : Str) = some .free
  kS : scope.names.lookup ("self" : Str) = some .local
  kd : scope.kind = .function
  co : scope.isCoroutine = false
  gn : scope.isGenerator = false
  nc : scope.names.all (fun x => x.2 != .cell) = true
/-- __init__ as it stands -/
def Ini0 (K : PySem.W.Frag) (fI cc cda : Addr) (q : Str) (scope : Scope) : Prop := ∃ (oc : Value) (od : Option Addr) (osl : Array (Option Value)) (name : Str) (p1 : Pos) (tx : Str) (j : Nat) (q1 q2 q3 q4 q5 q6 : Pos) (kV doc pm : Value) (an : Option Addr) (ct : Value),
  K.lookup fI = some ⟨oc, od, .func (ksFn name q (iA0 p1) [iS0 tx j q1 q2 q3 q4 q5 q6] scope .none kV doc pm an (.ref cda) ct cc), osl⟩ ∧ (q3.endLine == q5.line) = true
def Ini1 (K : PySem.W.Frag) (f : Str) (fI cc cda : Addr) (q : Str) (scope : Scope) : Prop := ∃ (oc : Value) (od : Option Addr) (osl : Array (Option Value)) (name : Str) (p1 p2 : Pos) (tx : Str) (j : Nat) (q1 q2 q3 q4 q5 q6 r1 r2 r3 r4 : Pos) (kV doc pm : Value) (an : Option Addr) (ct : Value),
  K.lookup fI = some ⟨oc, od, .func (ksFn name q (iA1 f p1 p2) [iS0 tx j q1 q2 q3 q4 q5 q6, iS1 f r1 r2 r3 r4] scope .none kV doc pm an (.ref cda) ct cc), osl⟩ ∧ (q3.endLine == q5.line) = true

section
variable {P : Program} {w : World} {A : Around} {E : Value → Shared → Prop} {R : Result → Shared → Prop} {K : PySem.W.Frag} {mg mb : Str → Option Value} {C fI cc cda : Addr} {B newId initId : String} {bmB : List Value} {q : Str} {scope : Scope}
variable {hp : Heap} {L x : Addr} {m : Str → Option Value}
theorem sup_eval {env : Env} {o : Expr} {name : Str} {tx : Str} {j : Nat} {q3 q4 q5 : Pos} (he : (q3.endLine == q5.line) = true) (hi : ∀ x p, o ≠ .Name x p) :
    ∃ pl, eval (.Call (.Attribute o name q3) [.Constant (.str tx) j q4] [] q5) env = (do
      let ov ← attributeBase o name env (eval o env)
      standAt q3.atName
      let (f, first) ← holding [ov] (getMethod ov name pl)
      callWith q5 f first (backTo q5 (starEach [.Constant (.str tx) j q4] env)) []) := by
  refine ⟨(do return (← importBound o env).getD true), ?_⟩
  have hp : methodCallPos true o env q3 q5 = pure q5 := by
    unfold methodCallPos
    rw [if_pos (by simp [he])]
  have hm : ∀ ov, methodCall o name q3 q5 env ov 1 (backTo q5 (starEach [.Constant (.str tx) j q4] env)) (backToKw q5 (keywordEach [] env)) = (do
      let (f, first) ← holding [ov] (getMethod ov name (do return (← importBound o env).getD true))
      callWith q5 f first (backTo q5 (starEach [.Constant (.str tx) j q4] env)) []) := fun ov => by
    show (do
      let (f, first) ← holding [ov] (getMethod ov name (do return (← importBound o env).getD true))
      let callPos ← methodCallPos true o env q3 q5
      callWith callPos f first (backTo q5 (starEach [.Constant (.str tx) j q4] env)) []) = _
    rw [hp]
    rfl
  show (do
    let ov ← attributeBase o name env (eval o env)
    standAt q3.atName
    methodCall o name q3 q5 env ov 1 (backTo q5 (starEach [.Constant (.str tx) j q4] env)) (backToKw q5 (keywordEach [] env))) = _
  simp only [hm]
/-- super().__init__(text) -/
theorem sup_run (T : ExK P K C fI cc cda B newId initId bmB q scope) {fd : FuncData} {ar : Arg} {oc : Value} {od : Option Addr} {osl : Array (Option Value)} {body : List Stmt} {tx : Str} {j : Nat} {q1 q2 q3 q4 q5 q6 : Pos} {t0 : Addr} {s : Shared} {Q : Flow → Shared → Prop} (he : (q3.endLine == q5.line) = true) (tp : NoTP hp)
    (F : Fr hp L s.heap m) (X : K.In hp) (N : News hp L s.heap [(x, excObj C t0 none .none)]) (Gg : hp.Ns mainGlobals mg) (Gb : hp.Ns builtinsNs mb) (hmb : mb "super" = bootBuiltins "super")
    (hf : K.lookup fI = some ⟨oc, od, .func fd, osl⟩) (hhp : (fd.params.posonlyargs ++ fd.params.args).head? = some ar) (hself : ar.arg = "self") (hv : m "self" = some (.ref x))
    (h : ∀ h' t' tk', Fr hp L h' m → (∃ news, News hp L h' news ∧ ∃ pre, news = pre ++ [(x, excObj C t' none .none)] ∧ ∀ p ∈ pre, p.1 ≠ x) → Q .next ⟨h', s.gens, s.drawn, tk', s.os⟩) :
    _root_.PySem.wpAt (model P w) A (.func body (ksEnv q scope L fI (.ref cda) cc)) (exec (iS0 tx j q1 q2 q3 q4 q5 q6) (ksEnv q scope L fI (.ref cda) cc)) Q E s := by
  obtain ⟨cl, cld, csl, hcell⟩ := T.cell
  obtain ⟨ccl, cdd, vs, ccs, file, tf, hcode, hvs, hfile⟩ := T.code
  obtain ⟨hh, g, d, tk, os⟩ := s
  have hX : K.In hh := X.keeps F.keep
  have I0 : PySem.W.InstAt hh x (excObj C t0 none .none) C none := ⟨(N (x, excObj C t0 none .none) (by simp)).1, rfl, rfl, trivial⟩
  obtain ⟨cd, hcd⟩ : ∃ cd, PySem.W.clsIn K C = some cd := by
    have z := T.own
    unfold PySem.W.mroIn at z
    cases e : PySem.W.clsIn K C with
    | none =>
      rw [e] at z
      cases z
    | some cd => exact ⟨cd, rfl⟩
  obtain ⟨oD, hD1, hD2⟩ : ∃ oD, hh.get? C = some oD ∧ oD.data = .cls cd := by
    unfold PySem.W.clsIn at hcd
    split at hcd
    · rename_i c d cd' sl ho
      cases hcd
      exact ⟨_, hX _ _ ho, rfl⟩
    · cases hcd
  refine ks_wpAt_Expr_any ?_ (by show (scope.kind == .module && _) = false; rw [T.kd]; rfl) rfl
  obtain ⟨pl, hpl⟩ := sup_eval (env := ksEnv q scope L fI (.ref cda) cc) (o := .Call (.Name "super" q1) [] [] q2) (name := "__init__") (tx := tx) (j := j) (q4 := q4) he (fun _ _ z => nomatch z)
  refine ks_wpAt_MethodCall (pl := pl) ?_ hpl
  refine ks_wpAt_super_base (env := ksEnv q scope L fI (.ref cda) cc) T.ks T.kc rfl rfl (hX _ _ hf) rfl hhp rfl (hX _ _ hcode) rfl hvs hfile T.top ?_
  refine PySem.W.ks_loadName_global T.kd T.ks (Calls.loadGlobal_builtin (env := ksEnv q scope L fI (.ref cda) cc) (Gg.keeps F.keep) (PySem.W.mg_none_of X Gg T.gsu) (Gb.keeps F.keep) (hmb.trans (by kernel_rfl : bootBuiltins "super" = some (.type "super"))) ⟨rfl, ?_⟩)
  refine wpAny_loadName_free T.kd T.kc rfl ⟨_, hX _ _ hcell, rfl⟩ ?_
  rw [hself]
  refine wpAny_loadName_local T.kd T.kS F.ns hv ?_
  refine ks_wpAny_isType_cls hD1 hD2 ⟨rfl, ?_⟩
  refine ks_wpAny_call_super hD1 hD2 I0.at_ I0.cls (fun c e => by cases e) (PySem.W.looks_mroIn hX T.own) (fun h' e k => ?_)
  obtain ⟨F1, N1, l1⟩ := PySem.W.ks_newsPush (s := ⟨hh, g, d, tk, os⟩) F N rfl e k
  have I1 : PySem.W.InstAt h' x (excObj C t0 none .none) C none := ⟨(N1 (x, excObj C t0 none .none) (by simp)).1, rfl, rfl, trivial⟩
  obtain ⟨K2, X2, etp⟩ := tp
  have X1 : K.In h' := X.keeps F1.keep
  have hsup := T.sup
  unfold ks_superIn at hsup
  rw [hcd] at hsup
  have hI : PySem.W.Looks (model P w) h' (isInstance (.ref x) (.type B)) true := I1.type.andThen (PySem.W.looks_subIn X1 T.sB)
  refine PySem.W.kxs_getMethod T.b.kx e (PySem.W.looks_opaque (X2.keeps F1.keep) etp) (l₀ := cd.mro) (fun A Q E s k q => wpAny_bind ((PySem.W.looks_clsIn X1 hcd) A _ E s k (wpAny_pure q))) rfl X1 hsup hI (PySem.W.ks_ne X1 I1 hcd) rfl ?_
  obtain ⟨F2, N2, l2⟩ := PySem.W.ks_newsPush (s := ⟨h', g, d, tk, os⟩) (o := kxs_mw initId x) F1 N1 rfl (Heap.get?_push_at rfl rfl) (fun b o e => Heap.get?_push_of_some _ e)
  obtain ⟨u, hu⟩ : ∃ u : Addr, u = h'.objs.size := ⟨_, rfl⟩
  obtain ⟨h2, hh2⟩ : ∃ h2 : Heap, h2 = h'.push (kxs_mw initId x) := ⟨_, rfl⟩
  simp only [← hu, ← hh2] at F2 N2 l2 ⊢
  refine PySem.W.kxs_callWith1 N2 (List.mem_cons_self ..) ?_
  refine spliced_more (wpAny_Constant_str (spliced_none ?_))
  refine ⟨PySem.W.kxs_at N2 (List.mem_cons_self ..), ?_⟩
  have n1 : (u : Addr) ≠ x := Nat.ne_of_gt (l2 (x, excObj C t0 none .none) (by simp))
  have n2 : hh.objs.size ≠ x := Nat.ne_of_gt (Heap.lt_size (N (x, excObj C t0 none .none) (by simp)).1)
  refine PySem.W.kxs_call (s := ⟨h2, g, d, _, os⟩) (x := x) (C := C) (t := t0) (dv := none) (c2 := .none) F2 X N2 T.b.fb T.cls (List.mem_cons_self ..) (.tail n1 (.tail n2 (.head (fun _ z => nomatch z)))) (by rw [sizeLine_eq]; exact (by decide : 1 ≤ 16777216)) fun t' h3 F3 N3 l3 => ?_
  have n3 : (t' : Addr) ≠ x := Nat.ne_of_gt (l3 (x, excObj C t0 none .none) (by simp))
  refine h h3 t' _ F3 ⟨_, N3, [(t', excTup _), (u, _), (hh.objs.size, _)], rfl, fun p hp => ?_⟩
  simp only [List.mem_cons, List.not_mem_nil, or_false] at hp
  rcases hp with rfl | rfl | rfl
  · exact n3
  · exact n1
  · exact n2

/-- what __init__ leaves -/
structure IniE (hp h' : Heap) (x C : Addr) (dv : Option Addr) : Prop where
  keep : ∀ b o, hp.get? b = some o → h'.get? b = some o
  obj : ∃ t', h'.get? x = some (excObj C t' dv .none)
theorem get_ge {h : Heap} {x : Addr} (le : h.objs.size ≤ x) : h.get? x = none := by
  cases e : h.get? x with
  | none => rfl
  | some o => exact absurd (Heap.lt_size e) (Nat.not_lt.mpr le)
theorem scope_nc {scope : Scope} (h : scope.names.all (fun x => x.2 != .cell) = true) : ∀ x ∈ scope.names, x.2 ≠ .cell := fun x hx e => by
  have z := List.all_eq_true.mp h x hx
  rw [e] at z
  cases z
/-- the fields' names -/
def fNames : List Str := ["value", "place", "row", "most"]
theorem bind1 {f : Str} (hf : f ∈ fNames) {name q : Str} {p1 p2 : Pos} {body : List Stmt} {scope : Scope} {kV doc pm cd ct : Value} {an : Option Addr} {cc : Addr} {u v : Value} :
    bindArgs (ksFn name q (iA1 f p1 p2) body scope .none kV doc pm an cd ct cc) { pos := [u, v] } = pure ([("self", u), (f, v)] : List (Str × Value)) := by
  simp only [fNames, List.mem_cons, List.not_mem_nil, or_false] at hf
  rcases hf with rfl | rfl | rfl | rfl
  all_goals first | rfl | with_unfolding_all rfl
theorem ini0_run (T : ExK P K C fI cc cda B newId initId bmB q scope) (I : Ini0 K fI cc cda q scope) {g : Array GenState} {d : Drawn} {tk : Nat} {os : OsState} {t0 : Addr} {hs : Heap} (k : ∀ b o, hp.get? b = some o → hs.get? b = some o) (hx : hs.get? x = some (excObj C t0 none .none)) (hxn : hp.objs.size ≤ x) (hle : hp.objs.size ≤ hs.objs.size)
    (X : K.In hp) (Gg : hp.Ns mainGlobals mg) (Gb : hp.Ns builtinsNs mb) (hmb : mb "super" = bootBuiltins "super") (lim : hp.NoLimit) (tp : NoTP hp) (room : A.depth < recursionLimit)
    (h : ∀ h' tk', IniE hp h' x C none → R (.ok (.ret .none)) ⟨h', g, d, tk', os⟩) :
    codeAny (model P w) A (.call (.ref fI) ⟨[.ref x], []⟩) R ⟨hs, g, d, tk, os⟩ := by
  obtain ⟨oc, od, osl, name, p1, tx, j, q1, q2, q3, q4, q5, q6, kV, doc, pm, an, ct, hf, he⟩ := I
  refine ks_codeAny_call_defAt (fd := ksFn name q (iA0 p1) [iS0 tx j q1 q2 q3 q4 q5 q6] scope .none kV doc pm an (.ref cda) ct cc) (body := [iS0 tx j q1 q2 q3 q4 q5 q6]) (binds := [("self", .ref x)]) room (k _ _ (X _ _ hf)) rfl (lim.keeps k) (PySem.W.codeRec_of (X.keeps k) T.cdi) rfl
    (BindsTo.of_eq (by first | rfl | with_unfolding_all rfl)) (scope_nc T.nc) (fun z hz => by
      simp only [List.mem_cons, List.not_mem_nil, or_false] at hz
      subst hz
      exact T.kS) (fun h₁ hn hk => ?_) T.co T.gn T.kd
  have F1 : Fr hp hs.objs.size h₁ (fun y => List.lookup y ([("self", .ref x)] : List (Str × Value)).reverse) := ⟨hn, fun b o e => hk b o (k b o e), hle⟩
  have N1 : News hp hs.objs.size h₁ [(x, excObj C t0 none .none)] := fun p hp' => by
    simp only [List.mem_cons, List.not_mem_nil, or_false] at hp'
    subst hp'
    exact ⟨hk _ _ hx, Nat.ne_of_lt (Heap.lt_size hx), get_ge hxn⟩
  refine ks_wpAt_execs_cons (sup_run T (s := ⟨h₁, g, d, _, os⟩) he tp F1 X N1 Gg Gb hmb hf rfl rfl rfl fun h' t' tk' F2 ⟨news, N2, pre, e, _⟩ => ?_)
  refine wpAt_of_wpAny (wpAny_execs_nil (h h' tk' ⟨F2.keep, t', ?_⟩))
  exact (N2 (x, excObj C t' none .none) (by rw [e]; simp)).1
theorem ini1_run {f : Str} (T : ExK P K C fI cc cda B newId initId bmB q scope) (kf : scope.names.lookup f = some .local) (hfn : f ∈ fNames) (nt : PySem.W.takerIn K C f = some none) (I : Ini1 K f fI cc cda q scope) {g : Array GenState} {d : Drawn} {tk : Nat} {os : OsState} {t0 : Addr} {hs : Heap} {v : Value} (k : ∀ b o, hp.get? b = some o → hs.get? b = some o) (hx : hs.get? x = some (excObj C t0 none .none)) (hxn : hp.objs.size ≤ x) (hle : hp.objs.size ≤ hs.objs.size)
    (X : K.In hp) (Gg : hp.Ns mainGlobals mg) (Gb : hp.Ns builtinsNs mb) (hmb : mb "super" = bootBuiltins "super") (lim : hp.NoLimit) (tp : NoTP hp) (room : A.depth < recursionLimit)
    (h : ∀ h' tk' dx, IniE hp h' x C (some dx) → hp.objs.size ≤ dx → dx ≠ x → h'.Ns1 dx (fun y => if y = f then some v else none) → R (.ok (.ret .none)) ⟨h', g, d, tk', os⟩) :
    codeAny (model P w) A (.call (.ref fI) ⟨[.ref x, v], []⟩) R ⟨hs, g, d, tk, os⟩ := by
  have nf : f ≠ "self" := by
    simp only [fNames, List.mem_cons, List.not_mem_nil, or_false] at hfn
    rcases hfn with rfl | rfl | rfl | rfl <;> decide
  have nd : (f == ("__debug__" : Str)) = false := by
    simp only [fNames, List.mem_cons, List.not_mem_nil, or_false] at hfn
    rcases hfn with rfl | rfl | rfl | rfl <;> decide
  obtain ⟨oc, od, osl, name, p1, p2, tx, j, q1, q2, q3, q4, q5, q6, r1, r2, r3, r4, kV, doc, pm, an, ct, hf, he⟩ := I
  refine ks_codeAny_call_defAt (fd := ksFn name q (iA1 f p1 p2) [iS0 tx j q1 q2 q3 q4 q5 q6, iS1 f r1 r2 r3 r4] scope .none kV doc pm an (.ref cda) ct cc) (body := [iS0 tx j q1 q2 q3 q4 q5 q6, iS1 f r1 r2 r3 r4]) (binds := [("self", .ref x), (f, v)]) room (k _ _ (X _ _ hf)) rfl (lim.keeps k) (PySem.W.codeRec_of (X.keeps k) T.cdi) rfl
    (BindsTo.of_eq (bind1 hfn)) (scope_nc T.nc) (fun z hz => by
      simp only [List.mem_cons, List.not_mem_nil, or_false] at hz
      rcases hz with rfl | rfl
      · exact T.kS
      · exact kf) (fun h₁ hn hk => ?_) T.co T.gn T.kd
  have F1 : Fr hp hs.objs.size h₁ (fun y => List.lookup y ([("self", .ref x), (f, v)] : List (Str × Value)).reverse) := ⟨hn, fun b o e => hk b o (k b o e), hle⟩
  have N1 : News hp hs.objs.size h₁ [(x, excObj C t0 none .none)] := fun p hp' => by
    simp only [List.mem_cons, List.not_mem_nil, or_false] at hp'
    subst hp'
    exact ⟨hk _ _ hx, Nat.ne_of_lt (Heap.lt_size hx), get_ge hxn⟩
  have e1 : List.lookup ("self" : Str) ([("self", .ref x), (f, v)] : List (Str × Value)).reverse = some (.ref x) := by
    have z : (("self" : Str) == f) = false := by
      simpa using fun e => nf e.symm
    show List.lookup ("self" : Str) [(f, v), ("self", .ref x)] = _
    simp [List.lookup, z]
  have e2 : List.lookup f ([("self", .ref x), (f, v)] : List (Str × Value)).reverse = some v := by
    show List.lookup f [(f, v), ("self", .ref x)] = _
    simp [List.lookup]
  refine ks_wpAt_execs_cons (sup_run T (s := ⟨h₁, g, d, _, os⟩) he tp F1 X N1 Gg Gb hmb hf rfl rfl e1 fun h' t' tk' F2 ⟨news, N2, pre, e, np⟩ => ?_)
  subst e
  refine ks_wpAt_execs_cons (ks_wpAt_Assign_Attr ?_ rfl)
  refine wpAt_of_wpAny (wpAny_Name (wpAny_loadName_local T.kd kf F2.ns e2 ?_) nd)
  refine wpAny_Name (wpAny_loadName_local T.kd T.kS F2.ns e1 ?_) rfl
  have up : PySem.W.UpdF x (excObj C t' none .none) (pre ++ [(x, excObj C t' none .none)]) (fun o => pre ++ [(x, o)]) := by
    clear N2
    induction pre with
    | nil => exact .head fun _ z => nomatch z
    | cons p r ih => exact .tail (np p (List.mem_cons_self ..)) (ih fun p hp => np p (List.mem_cons_of_mem _ hp))
  refine PySem.W.set_exc0 (s := ⟨h', g, d, tk', os⟩) (E := _) T.b.sf F2 X N2 (by simp) T.sa T.ov nt T.hd rfl up (by exact (by decide : 1 ≤ 1000)) fun dx h3 F3 N3 l3 => ?_
  refine wpAt_of_wpAny (wpAny_execs_nil ?_)
  have hd := (N3 (dx, _) (List.mem_cons_self ..)).1
  have hdn := (N3 (dx, _) (List.mem_cons_self ..)).2.2
  refine h h3 _ dx ⟨F3.keep, t', (N3 (x, excObj C t' (some dx) .none) (by simp)).1⟩ ?_ ?_ ?_
  · exact Nat.le_trans hxn (Nat.le_of_lt (l3 (x, excObj C t' none .none) (by simp)))
  · exact Nat.ne_of_gt (l3 (x, excObj C t' none .none) (by simp))
  · refine ⟨_, _, _, hd, rfl, ?_, ?_, ?_⟩
    · intro e he
      have z : e = ⟨PyData.keyHash w.params f, .str f (tk' + 1), v⟩ := by simpa [PySem.W.putL] using he
      exact ⟨f, tk' + 1, by rw [z]⟩
    · exact List.pairwise_singleton _ _
    · intro name
      show _ = if name = f then some v else none
      by_cases hn : name = f
      · subst hn
        rw [if_pos rfl]
        simp [nsFind, findBy, PySem.W.putL, Value.isStr]
      · rw [if_neg hn]
        simp [nsFind, findBy, PySem.W.putL, Value.isStr, Ne.symm hn]
end

/-! ### made and raised -/
/-- what the written part says of the exception class c -/
def HasEx (P : Program) (K : PySem.W.Frag) (mg : Str → Option Value) (c : String) : Prop := mg (Str.ofString c) = some (.ref (cAd K c)) ∧ ∃ fI cc cda B newId initId bmB q scope, ExK P K (cAd K c) fI cc cda B newId initId bmB q scope ∧
  match fldOf c with
  | none => Ini0 K fI cc cda q scope
  | some f => Str.ofString f ∈ fNames ∧ scope.names.lookup (Str.ofString f) = some .local ∧ PySem.W.takerIn K (cAd K c) (Str.ofString f) = some none ∧ Ini1 K (Str.ofString f) fI cc cda q scope
def mExc (c : String) (m : M (List D)) : M D := bnd m fun ds => ret (.exc c ds)
def liftX (K : PySem.W.Frag) (c : Pk) (W : WX) (m : M D) : L2.St → Hp → XK → Prop := fun σ H Q => ∃ l S, Rep K c l S σ H ∧ match m S with
  | .ok d S' => ∀ cls dd H' l', Rep K c l' S' σ H' → Gr l l' → Fly K l' cls dd d → Q cls dd H'
  | .er x S' => ∀ cls dd H' l', Rep K c l' S' σ H' → Gr l l' → Fly K l' cls dd x → W cls dd σ H'
  | .no => False
abbrev LX (X : Cx) (c : Pk) (W : WX) (e : Expr) (m : M D) : Prop := PMk X e (liftX X.K c W m)
theorem one_le {α : Type} (a : α) : [a].length ≤ sizeLine := by
  rw [sizeLine_eq]
  exact (by decide : 1 ≤ 16777216)
section
variable {X : Cx} {c : Pk} {W : WX}
theorem relO_one {v : V} {v' : Value} (r : RelV v v') (f g : Str) : RelO (List.lookup g [(f, v)]) (if g = f then some v' else none) := by
  by_cases hw : g = f
  · subst hw
    rw [if_pos rfl]
    simp only [List.lookup, beq_self_eq_true]
    exact r
  · rw [if_neg hw]
    have qw : (g == f) = false := by simpa using hw
    simp only [List.lookup, qw]
    trivial
theorem lx_1 {cn : String} {f : String} {a : Expr} {ma : M (List D)} {p pos : Pos} {k : Nat} (T : HasEx X.prog X.K X.mg cn) (hf : fldOf cn = some f) (tp : NoTP X.base) (hr : Room k X.A) (ha : LA X c W [a] ma) (hg : Gl X (Str.ofString cn) := by rfl) (hdb : ((Str.ofString cn) == ("__debug__" : Str)) = false := by decide)
    (he : starEach (a :: []) X.env = (false, eval a X.env) :: starEach [] X.env := by rfl) (hpl : (backTo pos (starEach [] X.env)).any (·.1) = false := by rfl) :
    LX X c W (.Call (.Name (Str.ofString cn) p) [a] [] pos) (mExc cn ma) := by
  intro pins s σ H Q I ⟨l, S, rp, h⟩
  obtain ⟨hmg, fI, cc, cda, B, newId, initId, bmB, q, scope, T, h1⟩ := T
  rw [hf] at h1
  obtain ⟨hfn, kf, nt, hI⟩ := h1
  refine wpAny_Call_Name_kw (ld_glob I hg hmg ?_ hdb)
  have h0 : liftA X.K c W [a].length ma σ H fun vs H1 => ∃ v d S1 l1, vs = [v] ∧ Rep X.K c l1 S1 σ H1 ∧ Gr l l1 ∧ Dt X.K l1 v d ∧ ∀ cls dd H' l', Rep X.K c l' S1 σ H' → Gr l l' → Fly X.K l' cls dd (.exc cn [d]) → Q cls dd H' := by
    refine ⟨l, S, rp, ?_⟩
    unfold mExc at h
    cases e : ma S with
    | ok ds S1 =>
      rw [bnd_ok e] at h
      rintro vs H1 l1 rp1 g1 ⟨r1, n1⟩
      cases r1 with
      | nil => cases n1
      | cons r rs =>
        cases rs with
        | nil => exact ⟨_, _, S1, l1, rfl, rp1, g1, r, h⟩
        | cons r2 rs => simp at n1
    | er x S1 =>
      rw [bnd_er e] at h
      exact h
    | no =>
      rw [bnd_no e] at h
      exact h
  refine PySem.W.callWith_K (h₀ := X.base) I.ok.mod.kin T.kC (thn (ha.run pos pins s σ H _ I h0) fun us s1 hh => ?_) he hpl
  obtain ⟨vs, H1, I1, r1, v, d, S1, l1, ev, rp1, g1, rd, hq⟩ := hh
  subst ev
  refine ⟨I1.kIn, ?_⟩
  cases r1 with
  | cons rv rn =>
    rename_i v' us'
    cases rn
    show wpAny _ _ (PySem.call (.ref _) [v']) _ _ _
    have hlim := I1.nolimit
    obtain ⟨hp, gs, dr, tk, os⟩ := s1
    obtain ⟨mb, hb1, hb2⟩ := I1.mod.blt
    have kk : ∀ b o, hp.get? b = some o → ((hp.push (PySem.W.kdv_tup [v'])).push (PySem.HandSPX.excO (cAd X.K cn) hp.objs.size)).get? b = some o := fun b o e => Heap.get?_push_of_some _ (Heap.get?_push_of_some _ e)
    have hget : ((hp.push (PySem.W.kdv_tup [v'])).push (PySem.HandSPX.excO (cAd X.K cn) hp.objs.size)).get? (hp.objs.size + 1) = some (PySem.HandSPX.excO (cAd X.K cn) hp.objs.size) := by heap_get
    obtain ⟨nm, N, qn, bs, bm, hdct, sn, sub, ab, col, dd, k0, k1, k2, k3, k5, hC, hT⟩ := PySem.W.excInit_of I1.kIn T.cls
    refine wpAny_call (PySem.HandSPX.call_own T.b.fb hT hC (PySem.W.looks_findIn I1.kIn T.ini) (fun self => PySem.W.bind_fn I1.kIn self T.tyI) (one_le v') ?_)
    refine ini1_run (hp := hp) (mg := X.mg) (mb := mb) T kf hfn nt hI kk hget (Nat.le_succ _) (by simp only [Heap.size_push]; omega) I1.kIn (I1.mod.glob.keeps I1.bk) (hb1.keeps I1.bk) (hb2 _ (by decide)) hlim (tp.keeps I1.bk) (by have := hr.dp; show X.A.depth + 1 < recursionLimit; omega) fun h' tk' dx E hdx dne hns => ⟨rfl, ?_⟩
    show MkP X pins σ Q (.ref (hp.objs.size + 1)) ⟨h', gs, dr, tk', os⟩
    obtain ⟨t', hoe⟩ := E.obj
    obtain ⟨G', g1', g2'⟩ := restrict h' fun b => decide (b ≠ hp.objs.size + 1)
    have gk : ∀ b, b ≠ hp.objs.size + 1 → G'.get? b = h'.get? b := fun b hb => g1' b (decide_eq_true hb)
    have ge : G'.get? (hp.objs.size + 1) = none := g2' _ (by simp)
    have old : ∀ b o, hp.get? b = some o → G'.get? b = some o := fun b o q => (gk b (Nat.ne_of_lt (Nat.lt_succ_of_lt (Heap.lt_size q)))).trans (E.keep b o q)
    have ob : ObjOk X.prog X.w (upd H1 dx (.xd [(Str.ofString f, v)])) G' dx (.xd [(Str.ofString f, v)]) := ⟨_, hns.at (fun o q => (gk dx dne).trans q), fun g => relO_one rv (Str.ofString f) g⟩
    have J : Inv X pins σ (upd H1 dx (.xd [(Str.ofString f, v)])) ⟨G', gs, dr, tk', os⟩ := I1.laid (t' := tk') old hdx ob
    have hdn : H1 dx = none := I1.hok.fresh hdx
    obtain ⟨rp2, g2⟩ := rp1.lay (o := .xd [(Str.ofString f, v)]) hdn (fun _ z => nomatch z)
    refine ⟨hp.objs.size + 1, _, _, ⟨G', gs, dr, tk', os⟩, _, .ref (cAd X.K cn), some dx, rfl, J, fun b o q => ?_, ge, hoe, ⟨rfl, rfl⟩, rfl, rfl, ?_, rfl, I1.bare, raises_own T.exC T.tyC, ?_⟩
    · by_cases hb : b = hp.objs.size + 1
      · have q' : G'.get? b = some o := q
        rw [hb, ge] at q'
        cases q'
      · exact (gk b hb).symm.trans q
    · rw [upd_ne (Ne.symm dne)]
      exact I1.hok.fresh (Nat.le_succ _)
    · exact hq _ _ _ _ rp2 (g1.trans g2) ⟨f, dx, v, hf, rfl, rfl, upd_same, Dt.grow g2 rd⟩
theorem lx_0 {cn : String} {p pos : Pos} {k : Nat} (T : HasEx X.prog X.K X.mg cn) (hf : fldOf cn = none) (tp : NoTP X.base) (hr : Room k X.A) (hg : Gl X (Str.ofString cn) := by rfl) (hdb : ((Str.ofString cn) == ("__debug__" : Str)) = false := by decide) :
    LX X c W (.Call (.Name (Str.ofString cn) p) [] [] pos) (mExc cn aNil) := by
  intro pins s σ H Q I ⟨l, S, rp, h⟩
  obtain ⟨hmg, fI, cc, cda, B, newId, initId, bmB, q, scope, T, hI⟩ := T
  rw [hf] at hI
  refine wpAny_Call_Name_kw (ld_glob I hg hmg ?_ hdb)
  refine PySem.W.callWith_K0 I.kIn T.kC ?_
  show wpAny _ _ (PySem.call (.ref _) []) _ _ _
  have hlim := I.nolimit
  obtain ⟨hp, gs, dr, tk, os⟩ := s
  obtain ⟨mb, hb1, hb2⟩ := I.mod.blt
  have kk : ∀ b o, hp.get? b = some o → ((hp.push (PySem.W.kdv_tup [])).push (PySem.HandSPX.excO (cAd X.K cn) hp.objs.size)).get? b = some o := fun b o e => Heap.get?_push_of_some _ (Heap.get?_push_of_some _ e)
  have hget : ((hp.push (PySem.W.kdv_tup [])).push (PySem.HandSPX.excO (cAd X.K cn) hp.objs.size)).get? (hp.objs.size + 1) = some (PySem.HandSPX.excO (cAd X.K cn) hp.objs.size) := by heap_get
  obtain ⟨nm, N, qn, bs, bm, hdct, sn, sub, ab, col, dd, k0, k1, k2, k3, k5, hC, hT⟩ := PySem.W.excInit_of I.kIn T.cls
  refine wpAny_call (PySem.HandSPX.call_own T.b.fb hT hC (PySem.W.looks_findIn I.kIn T.ini) (fun self => PySem.W.bind_fn I.kIn self T.tyI) (Nat.zero_le _) ?_)
  refine ini0_run (hp := hp) (mg := X.mg) (mb := mb) T hI kk hget (Nat.le_succ _) (by simp only [Heap.size_push]; omega) I.kIn (I.mod.glob.keeps I.bk) (hb1.keeps I.bk) (hb2 _ (by decide)) hlim (tp.keeps I.bk) (by have := hr.dp; show X.A.depth + 1 < recursionLimit; omega) fun h' tk' E => ⟨rfl, ?_⟩
  show MkP X pins σ Q (.ref (hp.objs.size + 1)) ⟨h', gs, dr, tk', os⟩
  obtain ⟨t', hoe⟩ := E.obj
  obtain ⟨G', g1', g2'⟩ := restrict h' fun b => decide (b ≠ hp.objs.size + 1)
  have gk : ∀ b, b ≠ hp.objs.size + 1 → G'.get? b = h'.get? b := fun b hb => g1' b (decide_eq_true hb)
  have ge : G'.get? (hp.objs.size + 1) = none := g2' _ (by simp)
  have old : ∀ b o, hp.get? b = some o → G'.get? b = some o := fun b o q => (gk b (Nat.ne_of_lt (Nat.lt_succ_of_lt (Heap.lt_size q)))).trans (E.keep b o q)
  have J : Inv X pins σ H ⟨G', gs, dr, tk', os⟩ := I.kept (t' := tk') old
  refine ⟨hp.objs.size + 1, _, _, ⟨G', gs, dr, tk', os⟩, _, .ref (cAd X.K cn), none, rfl, J, fun b o q => ?_, ge, hoe, ⟨rfl, rfl⟩, rfl, rfl, ?_, rfl, I.bare, raises_own T.exC T.tyC, ?_⟩
  · by_cases hb : b = hp.objs.size + 1
    · have q' : G'.get? b = some o := q
      rw [hb, ge] at q'
      cases q'
    · exact (gk b hb).symm.trans q
  · exact I.hok.fresh (Nat.le_succ _)
  · exact h _ _ _ _ rp (Gr.refl _) ⟨rfl, rfl⟩
/-- raise C(..) -/
theorem ls_raise {e : Expr} {m : M D} {pos : Pos} (hc : X.calm = true) (tk : Takes X W) (he : LX X c W e m) : LS X c W (.Raise (some e) none pos) (sRaise m) := by
  refine PS.imp (ps_raise hc tk he) fun D σ H ⟨l, S, rp, po⟩ => ⟨l, S, rp, ?_⟩
  unfold sRaise at po
  cases e : m S with
  | ok d S1 =>
    rw [bnd_ok e] at po
    exact fun cls dd H' l' rp' g f => po cls dd σ H' l' rp' g f
  | er x S1 =>
    rw [bnd_er e] at po
    exact fun cls dd H' l' rp' g f => po cls dd σ H' l' rp' g f
  | no =>
    rw [bnd_no e] at po
    exact po
end
end Lw

set_option Elab.async false
set_option linter.all false
set_option maxRecDepth 100000
set_option maxHeartbeats 4000000
/-! Lw: lambdas, without parameters or with one that has a whole number by default, handed to a def that calls them. -/
namespace Lw
open PySem PySem.Spec PyProof.Rows L2

abbrev lamA0 : Arguments := { posonlyargs := [], args := [], vararg := none, kwonlyargs := [], kw_defaults := [], kwarg := none, defaults := [] }
abbrev lamA1 (n : Str) (p : Pos) (i : Int) (j : Nat) (q : Pos) : Arguments := { posonlyargs := [], args := [{ arg := n, annotation := none, pos := p }], vararg := none, kwonlyargs := [], kw_defaults := [], kwarg := none, defaults := [.Constant (.int i) j q] }
abbrev lamFn (qual : Str) (params : Arguments) (body : Expr) (scope : Scope) (cl : List (Str × Addr)) (pm cdv ct dV : Value) : FuncData :=
  { name := "<lambda>", qualname := qual, params, body := .expr body, scope, globals := mainGlobals, closure := cl, defaults := dV, kwdefaults := .none, doc := .none, pyModule := pm, annotations := none, code := cdv, closureTuple := ct, builtins := builtinsNs }
abbrev lamObj (qual : Str) (params : Arguments) (body : Expr) (scope : Scope) (cl : List (Str × Addr)) (pm : Value) (c' : Addr) (ct dV : Value) : Obj := { cls := .type "function", data := .func (lamFn qual params body scope cl pm (.ref c') ct dV) }
/-- the code object of a lambda at pos in the table ps, and the table behind it -/
inductive TabN (ps : Array Value) (pos : Pos) (qual : Str) (P : Addr) (h h' : Heap) (c' : Addr) : Prop
  | hit : codeAmong pos ps.toList = some (.ref c') → (∀ b o, h.get? b = some o → h'.get? b = some o) → h.objs.size ≤ h'.objs.size → TabN ps pos qual P h h' c'
  | new : codeAmong pos ps.toList = none → Heap.ExtBut P h h' → h.objs.size ≤ c' → c' < h'.objs.size → h'.CodeRec (.ref c') qual → h'.get? P = some { cls := .none, data := .fields (ps ++ #[rawInt pos.line, rawInt pos.col, .ref c']) } → TabN ps pos qual P h h' c'
section
variable {M : Model} {A : Around} {E : Value → Shared → Prop} {s : Shared} {qual : Str} {params : Arguments} {body : Expr} {scope : Scope} {env : Env} {c P : Addr} {ps : Array Value} {pos : Pos} {firstLine : Nat} {mg : Str → Option Value} {clos : List (Str × Addr)} {Q : Value → Shared → Prop} {dV : Value}
theorem lam_code {h₀ : Heap} (hkeep : ∀ b o, h₀.get? b = some o → s.heap.get? b = some o) (hsz : h₀.objs.size ≤ s.heap.objs.size) (hcode : env.code = .ref c) (C : PySem.W.CodeHd s.heap c P) (hP : s.heap.get? P = some { cls := .none, data := .fields ps }) (ht : TriplesOk ps.toList)
    (hcr : ∀ cv, codeAmong pos ps.toList = some cv → ∃ c', cv = .ref c')
    (h : ∀ c' h' tk, TabN ps pos qual P h₀ h' c' → (∀ b o, b ≠ P → s.heap.get? b = some o → h'.get? b = some o) → Q (.ref c') { s with heap := h', toks := tk }) : wpAny M A (functionCode env pos firstLine "<lambda>" qual params scope (.expr body)) Q E s := by
  cases e : codeAmong pos ps.toList with
  | some cv =>
    obtain ⟨c', rfl⟩ := hcr cv e
    exact wpAny_functionCode_hit hcode (C.code hP ht) e (h c' s.heap s.toks (.hit e hkeep hsz) fun _ _ _ q => q)
  | none =>
    refine wpAny_functionCodeX hcode (C.code hP ht) (C.tab hP) e fun c' h' tk hx hge hlt _ hrec htb _ => h c' h' tk (.new e (fun b o hb q => hx b o hb (hkeep b o q)) (Nat.le_trans hsz hge) hlt hrec htb.2) fun b o hb q => hx b o hb q
theorem lam_tail {h₀ : Heap} (hkeep : ∀ b o, h₀.get? b = some o → s.heap.get? b = some o) (hsz : h₀.objs.size ≤ s.heap.objs.size) (hcl : closureFor scope env = pure clos) (hge0 : env.globals = mainGlobals) (hg : s.heap.Ns mainGlobals mg) (hcode : env.code = .ref c) (C : PySem.W.CodeHd s.heap c P) (hP : s.heap.get? P = some { cls := .none, data := .fields ps }) (ht : TriplesOk ps.toList)
    (hcr : ∀ cv, codeAmong pos ps.toList = some cv → ∃ c', cv = .ref c') (hgP : mainGlobals ≠ P) (hb : s.heap.BuiltinsAt mg P)
    (h : ∀ c' ctv h' tk, TabN ps pos qual P h₀ h' c' → (∀ b o, b ≠ P → s.heap.get? b = some o → h'.get? b = some o) → Q (.ref h'.objs.size) { s with heap := h'.push (lamObj qual params body scope clos ((mg "__name__").getD .none) c' ctv dV), toks := tk }) :
    wpAny M A (makeTail "<lambda>" qual params (.expr body) scope env dV .none none pos firstLine) Q E s := by
  obtain ⟨bm, ob, hbm, hne0, _, hneP, hbo, hcls, hdict, hdata⟩ := hb
  have fin : ∀ (s1 : Shared) (ctv : Value), (∀ b o, s.heap.get? b = some o → s1.heap.get? b = some o) → s.heap.objs.size ≤ s1.heap.objs.size → s1 = { s with heap := s1.heap, toks := s1.toks } →
      wpAny M A (do
        let code ← functionCode env pos firstLine "<lambda>" qual params scope (.expr body)
        let bi ← builtinsFor mainGlobals env.builtins
        let nm ← nsGet mainGlobals "__name__"
        newObj (.type "function") (.func { lamFn qual params body scope clos (nm.getD .none) code ctv dV with builtins := bi })) Q E s1 := fun s1 ctv k1 z1 e1 => by
    refine wpAny_bind (lam_code (h₀ := h₀) (fun b o q => k1 b o (hkeep b o q)) (Nat.le_trans hsz z1) hcode (C.keeps k1) (k1 _ _ hP) ht hcr fun c' h' tk t k2 => ?_)
    have hg' : h'.Ns mainGlobals mg := by
      obtain ⟨o, es, ep, q, r⟩ := hg
      exact ⟨o, es, ep, k2 _ _ hgP (k1 _ _ q), r⟩
    refine wpAny_bind (wpAny_builtinsFor hg' hbm hne0 (k2 _ _ hneP (k1 _ _ hbo)) hcls hdict hdata ?_)
    refine wpAny_bind (wpAny_nsGet hg' ?_)
    rw [e1]
    exact wpAny_newObj_type (h c' ctv h' tk t fun b o hb q => k2 b o hb (k1 b o q)) (by size_fits)
  unfold makeTail
  rw [hcl, hge0]
  refine wpAny_bind (wpAny_pure ?_)
  cases clos with
  | nil =>
    simp only [List.isEmpty_nil, if_true]
    refine wpAny_bind (wpAny_pure ?_)
    exact fin s .none (fun _ _ q => q) (Nat.le_refl _) rfl
  | cons q r =>
    simp only [List.isEmpty_cons, Bool.false_eq_true, if_false]
    refine wpAny_bind (wpAny_newTextTuple ?_)
    exact fin _ _ (fun b o q => Heap.get?_push_of_some _ q) (by rw [Heap.size_push]; omega) rfl
end
/-! ### defaults -/
def lamNs : List Str := ["n", "y"]
inductive LamA : Arguments → Option (Str × Int) → Prop
  | a0 : LamA lamA0 none
  | a1 {n : Str} {p : Pos} {i : Int} {j : Nat} {q : Pos} : n ∈ lamNs → LamA (lamA1 n p i j q) (some (n, i))
def DefAt : Option (Str × Int) → Value → Heap → Prop
  | none, dV, _ => dV = .none
  | some (_, i), dV, h => ∃ T0 t, dV = .ref T0 ∧ h.get? T0 = some ({ cls := .type "tuple", data := .seq #[.int i t] } : Obj)
def lamBs : Option (Str × Int) → Tok → List (Str × Value)
  | none, _ => []
  | some (n, i), t => [(n, .int i t)]
theorem lam_binds {params : Arguments} {dn : Option (Str × Int)} (a : LamA params dn) {s : Shared} {dV : Value} (d : DefAt dn dV s.heap) (q : Str) (body : Expr) (scope : Scope) (cl : List (Str × Addr)) (pm cv ctv : Value) :
    ∃ t, BindsTo s (lamFn q params body scope cl pm cv ctv dV) ⟨[], []⟩ (lamBs dn t) := by
  cases a with
  | a0 =>
    have d : dV = .none := d
    subst d
    exact ⟨0, .of_eq (by first | rfl | with_unfolding_all rfl)⟩
  | @a1 n p i j q' hn =>
    obtain ⟨T0, t, rfl, e⟩ := d
    refine ⟨t, ?_⟩
    simp only [lamNs, List.mem_cons, List.not_mem_nil, or_false] at hn
    rcases hn with rfl | rfl
    · exact .of_defaults (T := T0) rfl e rfl rfl (by first | rfl | with_unfolding_all rfl)
    · exact .of_defaults (T := T0) rfl e rfl rfl (by first | rfl | with_unfolding_all rfl)
section
variable {M : Model} {A : Around} {E : Value → Shared → Prop} {s : Shared} {params : Arguments} {dn : Option (Str × Int)} {body : Expr} {scope : Scope} {env : Env} {pos : Pos} {Q : Value → Shared → Prop}
theorem lam_eval (a : LamA params dn)
    (h : ∀ dV h1 tk, (∀ b o, s.heap.get? b = some o → h1.get? b = some o) → s.heap.objs.size ≤ h1.objs.size → DefAt dn dV h1 → (∀ T0, dV = .ref T0 → s.heap.objs.size ≤ T0) →
      wpAny M A (makeTail "<lambda>" (env.qual ++ "<lambda>") params (.expr body) scope env dV .none none pos pos.line) Q E { s with heap := h1, toks := tk }) :
    wpAny M A (eval (.Lambda params body scope pos) env) Q E s := by
  rw [arm_eval_Lambda]
  cases a with
  | a0 =>
    show wpAny M A (do let dv ← evalAll []; let kdv ← holding dv (evalAllOpt []); makeFunction "<lambda>" (env.qual ++ "<lambda>") lamA0 (.expr body) scope env dv kdv [] pos pos.line) Q E s
    refine wpAny_bind (wpAny_pure (wpAny_bind (wpAny_holding (wpAny_pure ?_))))
    rw [makeFunction_eq]
    simp only [List.zip_nil_right, List.filterMap_nil, List.isEmpty_nil, if_true, pure_bind]
    exact h .none s.heap s.toks (fun _ _ q => q) (Nat.le_refl _) rfl (fun _ z => nomatch z)
  | @a1 n p i j q hn =>
    show wpAny M A (do let dv ← evalAll [eval (.Constant (.int i) j q) env]; let kdv ← holding dv (evalAllOpt []); makeFunction "<lambda>" (env.qual ++ "<lambda>") (lamA1 n p i j q) (.expr body) scope env dv kdv [] pos pos.line) Q E s
    refine wpAny_bind ?_
    show wpAny M A (do let v ← eval (.Constant (.int i) j q) env; return v :: (← holding [v] (evalAll []))) _ E s
    refine wpAny_bind (wpAny_Constant_int (wpAny_bind (wpAny_holding (wpAny_pure (wpAny_pure ?_)))))
    refine wpAny_bind (wpAny_holding (wpAny_pure ?_))
    rw [makeFunction_eq]
    simp only [List.zip_nil_right, List.filterMap_nil, List.isEmpty_nil, List.isEmpty_cons, if_true, Bool.false_eq_true, if_false, pure_bind]
    refine wpAny_bind (wpAny_newTextTuple ?_)
    refine h (.ref s.heap.objs.size) _ _ (fun b o q => Heap.get?_push_of_some _ q) (by rw [Heap.size_push]; exact Nat.le_succ s.heap.objs.size) ⟨s.heap.objs.size, s.toks, rfl, ?_⟩ (fun T0 z => by cases z; exact Nat.le_refl _)
    exact Heap.get?_push_size _ rfl
end

/-! ### a lambda is made -/
section
variable {X : Cx} {pins : List (Addr × Obj)} {σ : L2.St} {H : Hp} {s : Shared}
theorem lam_make {T : List (Addr × Str)} {c P : Addr} {params : Arguments} {dn : Option (Str × Int)} {body : Expr} {scope : Scope} {pos : Pos} {E : Value → Shared → Prop} {Q : Value → Shared → Prop} (I : Inv X pins σ H s) (TB : LamX.TabB X.base X.mg c P) (hcode : X.env.code = .ref c)
    (hm : (P, X.env.qual ++ "<lambda>") ∈ T) (hu : ∀ p ∈ T, p.1 = P → p.2 = X.env.qual ++ "<lambda>") (hT : LamX.Tabs T H) (a : LamA params dn) (hfree : ∀ y ∈ scope.names, y.2 = .free → ∃ c, X.env.cells.lookup y.1 = some c)
    (h : ∀ (f c' : Addr) (pm ctv dV : Value) (H1 : Hp) (s' : Shared), Inv X pins σ H1 s' → LamX.ExtN H H1 → (∀ b, H1 b = none → H b = none) → LamX.Tabs T H1 →
      s'.heap.get? f = some (lamObj (X.env.qual ++ "<lambda>") params body scope (cloFrom X.env.cells scope.names []) pm c' ctv dV) → H1 f = none → f ∉ frs X.stack → H1 c' = some (LamX.CodeO c' (X.env.qual ++ "<lambda>")) →
      DefAt dn dV s'.heap → (∀ T0, dV = .ref T0 → H1 T0 = none ∧ T0 ∉ frs X.stack) → Q (.ref f) s') :
    wpAny (model X.prog X.w) X.A (eval (.Lambda params body scope pos) X.env) Q E s := by
  obtain ⟨ps, hP, ht, ha⟩ := hT _ hm
  have hP' : s.heap.get? P = some { cls := .none, data := .fields ps } := I.hok P _ hP
  have nofr : ∀ f, s.heap.objs.size ≤ f → f ∉ frs X.stack := fun f hf z => by
    rcases List.mem_cons.mp (I.stkSub _ z) with e | e
    · have h1 := I.lt
      rw [← e] at h1
      exact Nat.lt_irrefl _ (Nat.lt_of_lt_of_le h1 hf)
    · exact I.nofs hf e
  refine lam_eval a fun dV h1 tk k1 z1 d1 hT0 => ?_
  refine lam_tail (mg := X.mg) (h₀ := s.heap) (c := c) (P := P) (ps := ps) k1 z1 (closure_ok hfree) I.ok.glob ((I.mod.glob.keeps I.bk).keeps k1) hcode ((TB.code.keeps I.bk).keeps k1) (k1 _ _ hP') ht (fun cv e => by
    obtain ⟨c', e1, _⟩ := ha pos cv e
    exact ⟨c', e1⟩) TB.gP ((TB.bm.keeps I.bk).keeps k1) fun c' ctv h' tk' t k2 => ?_
  have dP : ∀ T0, dV = .ref T0 → T0 ≠ P := fun T0 e z => by
    have := hT0 T0 e
    rw [z] at this
    exact absurd (Heap.lt_size hP') (Nat.not_lt.mpr this)
  have d2 : ∀ o : Obj, DefAt dn dV (h'.push o) := fun o => by
    match dn, d1 with
    | none, d1 => exact d1
    | some (n, i), ⟨T0, t, e, q⟩ => exact ⟨T0, t, e, Heap.get?_push_of_some _ (k2 _ _ (dP T0 e) q)⟩
  cases t with
  | hit hc hk hz =>
    obtain ⟨c2, e, hco⟩ := ha pos _ hc
    cases e
    have I1 : Inv X pins σ H { s with heap := h'.push (lamObj (X.env.qual ++ "<lambda>") params body scope (cloFrom X.env.cells scope.names []) ((X.mg "__name__").getD .none) c' ctv dV), toks := tk' } := I.kept fun b o e => Heap.get?_push_of_some _ (hk b o e)
    exact h h'.objs.size c' ((X.mg "__name__").getD .none) ctv dV H _ I1 (LamX.ExtN.refl H) (fun _ z => z) hT (Heap.get?_push_size _ rfl) (I.hok.fresh hz) (nofr _ hz) hco (d2 _) fun T0 e => ⟨I.hok.fresh (hT0 T0 e), nofr _ (hT0 T0 e)⟩
  | new hc hx hge hlt hrec htb =>
    obtain ⟨c2, oc, vs, t, e2, hoc, hd, hv⟩ := hrec
    cases e2
    have hsz : s.heap.objs.size ≤ h'.objs.size := Nat.le_trans hge (Nat.le_of_lt hlt)
    have nC : H c' = none := I.hok.fresh hge
    have I1 := LamX.inv_table (t' := tk') (more := #[rawInt pos.line, rawInt pos.col, .ref c']) (h' := h'.push (lamObj (X.env.qual ++ "<lambda>") params body scope (cloFrom X.env.cells scope.names []) ((X.mg "__name__").getD .none) c' ctv dV)) I hP
      (fun b o hb e => Heap.get?_push_of_some _ (hx b o hb e)) (Heap.get?_push_of_some _ htb) hge ⟨oc, vs, t, Heap.get?_push_of_some _ hoc, hd, hv⟩
    have hPc : P ≠ c' := ne_of_none hP nC
    have atN : ∀ b, b ≠ P → b ≠ c' → upd (upd H P (.tbl (ps ++ #[rawInt pos.line, rawInt pos.col, .ref c']))) c' (LamX.CodeO c' (X.env.qual ++ "<lambda>")) b = H b := fun b h1 h2 => by rw [upd_ne h2, upd_ne h1]
    have hE : LamX.ExtN H (upd (upd H P (.tbl (ps ++ #[rawInt pos.line, rawInt pos.col, .ref c']))) c' (LamX.CodeO c' (X.env.qual ++ "<lambda>"))) := fun b o e n => by
      rw [atN b (fun z => by rw [z, hP] at e; exact n ps (Option.some.inj e).symm) (ne_of_none e nC)]
      exact e
    have eL : (ps ++ #[rawInt pos.line, rawInt pos.col, .ref c']).toList = ps.toList ++ [rawInt pos.line, rawInt pos.col, .ref c'] := by simp
    refine h h'.objs.size c' ((X.mg "__name__").getD .none) ctv dV _ _ I1 hE (fun b e => ?_) (fun p hp => ?_) (Heap.get?_push_size _ rfl) ?_ (nofr _ hsz) upd_same (d2 _) fun T0 e => ⟨?_, nofr _ (hT0 T0 e)⟩
    · by_cases h1 : b = c'
      · rw [h1]
        exact nC
      · by_cases h2 : b = P
        · rw [h2, upd_ne hPc, upd_same] at e
          cases e
        · rw [atN b h2 h1] at e
          exact e
    · by_cases hb : p.1 = P
      · rw [hu p hp hb, hb]
        refine ⟨_, by rw [upd_ne hPc, upd_same], by rw [eL]; exact PySem.TriplesOk_snoc _ _ _ _ ht, fun p' cv hcv => ?_⟩
        rw [eL] at hcv
        rcases LamX.among_app _ ht hcv with z | z
        · obtain ⟨c0, e1, e2⟩ := ha p' cv z
          exact ⟨c0, e1, hE _ _ e2 LamX.codeO_ne⟩
        · exact ⟨c', z, upd_same⟩
      · obtain ⟨ps', a1, a2, a3⟩ := hT p hp
        refine ⟨ps', by rw [atN _ hb (ne_of_none a1 nC)]; exact a1, a2, fun p' cv hcv => ?_⟩
        obtain ⟨c0, e1, e2⟩ := a3 p' cv hcv
        exact ⟨c0, e1, hE _ _ e2 LamX.codeO_ne⟩
    · rw [atN _ (Nat.ne_of_gt (Nat.lt_of_lt_of_le (Heap.lt_size hP') hsz)) (Nat.ne_of_gt hlt)]
      exact I.hok.fresh hsz
    · have q : T0 ≠ c' := fun z => by
        have d3 := d2 (lamObj (X.env.qual ++ "<lambda>") params body scope (cloFrom X.env.cells scope.names []) ((X.mg "__name__").getD .none) c' ctv dV)
        match dn, d3 with
        | none, d3 =>
          have d3 : dV = .none := d3
          rw [d3] at e
          cases e
        | some (n, i), ⟨T1, t1, e1, q1⟩ =>
          rw [e1] at e
          cases e
          rw [z, Heap.get?_push_of_some _ hoc] at q1
          cases q1
          cases hd
      rw [atN _ (dP T0 e) q]
      exact I.hok.fresh (hT0 T0 e)
end
end Lw

set_option Elab.async false
set_option linter.all false
set_option maxRecDepth 100000
set_option maxHeartbeats 4000000
/-! Lw: a def that calls what it was handed, and catches what that raises. -/
namespace Lw
open PySem PySem.Spec PyProof.Rows L2

/-! ### the lambda's body runs -/
/-- a lambda's names: captured ones, globals, and perhaps a parameter that is no name of the maker -/
structure LamS (N : List Str) (sc scope : Scope) (dn : Option (Str × Int)) : Prop where
  kind : scope.kind = .function
  co : scope.isCoroutine = false
  gen : scope.isGenerator = false
  nc : ∀ y ∈ scope.names, y.2 ≠ .cell
  own : ∀ y ∈ scope.names, y.2 = .local → y.1 ∉ N
  free : ∀ y ∈ scope.names, y.2 = .free → sc.names.lookup y.1 = some .cell ∨ sc.names.lookup y.1 = some .free
  par : ∀ n i, dn = some (n, i) → scope.names.lookup n = some .local
def lamSB (N : List Str) (sc scope : Scope) (dn : Option (Str × Int)) : Bool :=
  decide (scope.kind = .function) && (!scope.isCoroutine && (!scope.isGenerator && ((scope.names.all fun y => !decide (y.2 = .cell) && ((!decide (y.2 = .local) || !N.contains y.1) && (!decide (y.2 = .free) || (decide (sc.names.lookup y.1 = some .cell) || decide (sc.names.lookup y.1 = some .free))))) && match dn with
  | none => true
  | some p => decide (scope.names.lookup p.1 = some .local))))
theorem lamS_by {N : List Str} {sc scope : Scope} {dn : Option (Str × Int)} (h : lamSB N sc scope dn = true) : LamS N sc scope dn := by
  unfold lamSB at h
  simp only [Bool.and_eq_true, Bool.or_eq_true, Bool.not_eq_true', decide_eq_true_eq, decide_eq_false_iff_not, List.all_eq_true] at h
  obtain ⟨h1, h2, h3, h4, h5⟩ := h
  refine ⟨h1, h2, h3, fun y hy => (h4 y hy).1, fun y hy e z => ?_, fun y hy e => ?_, fun n i e => ?_⟩
  · rcases (h4 y hy).2.1 with q | q
    · exact q e
    · have : N.contains y.1 = true := by simpa using z
      rw [this] at q
      cases q
  · rcases (h4 y hy).2.2 with q | q
    · exact absurd e q
    · exact q
  · subst e
    simpa using h5
section
variable {X : Cx} {pins : List (Addr × Obj)} {σ : L2.St} {H HZ : Hp} {s s1 : Shared}
theorem LamS.has {scope : Scope} {dn : Option (Str × Int)} (L : LamS X.N X.env.scope scope dn) (ok : X.Ok) : ∀ y ∈ scope.names, y.2 = .free → ∃ c, X.env.cells.lookup y.1 = some c := fun y hy e => by
  rcases L.free y hy e with k | k
  · exact ok.has _ (.inl k)
  · exact ok.has _ (.inr k)
theorem clo_cells {cells : List (Str × Addr)} {names : List (Str × NameKind)} (hf : ∀ y ∈ names, y.2 = .free → ∃ c, cells.lookup y.1 = some c) {y : Str} {c : Addr} (e : (cloFrom cells names []).lookup y = some c) : cells.lookup y = some c := by
  rcases cloFrom_mem (PySem.mem_of_lookup e) with hm | ⟨h1, h2⟩
  · cases hm
  · obtain ⟨c1, hc⟩ := hf _ h1 rfl
    have hc : cells.lookup y = some c1 := hc
    rw [h2, hc]
    rfl
theorem lam_start {A : Around} {outer : List Env} {E : XK} {scope : Scope} {dn : Option (Str × Int)} {f c' : Addr} {h₁ : Heap} {tk : Nat} {m : Str → Option Value} (I : Inv X pins σ H s) (L : LamS X.N X.env.scope scope dn) (e0 : Env0 X.prog X.w X.K X.mg X.base A outer s1 HZ) (hd : A.handled = none)
    (un : Un (frs X.stack) [] H HZ s.heap s1.heap) (hns : h₁.Ns s1.heap.objs.size m) (kp : ∀ b o, s1.heap.get? b = some o → h₁.get? b = some o) :
    Inv (LamX.lamCx X A outer s1 HZ E scope f c') [] σ HZ { s1 with heap := h₁, toks := tk } := by
  have hfree := L.has I.ok
  have back : ∀ {y : Str}, scope.names.lookup y = some .free → ∃ c, (cloFrom X.env.cells scope.names []).lookup y = some c := fun {y} hl => mem_lookup (cloFrom_has (cells := X.env.cells) (acc := []) (PySem.mem_of_lookup hl))
  have cellK : ∀ {c : Addr} {v : Option Value}, H c = none → s.heap.IsCell c v → h₁.IsCell c v := fun {c v} n ⟨o, ho, hd⟩ => by
    obtain ⟨sl, q⟩ := un.any ho n (by simp)
    exact ⟨_, kp _ _ q, hd⟩
  have none_ex : ∀ b : Addr, b ∉ (LamX.lamCx X A outer s1 HZ E scope f c').ex := fun b z => nomatch (show b ∈ ([] : List Addr) from z)
  constructor
  · refine ⟨e0.mod, L.kind, rfl, rfl, Nat.le_refl _, fun y z c e1 e2 => I.ok.inj y z c (clo_cells hfree e1) (clo_cells hfree e2), fun y hy => ?_, fun y c z _ => ?_, fun _ => hd, Around.frames_deeper e0.frames, .inr ⟨rfl, rfl⟩, fun b z => absurd z (none_ex b), e0.bs, e0.bsz, fun b _ _ => none_ex b, fun b z => absurd z (none_ex b), e0.funs, e0.frf⟩
    · rcases (show scope.names.lookup y = some .cell ∨ scope.names.lookup y = some .free from hy) with hy | hy
      · exact absurd rfl (L.nc _ (PySem.mem_of_lookup hy))
      · exact back hy
    · have z : false = true := z
      cases z
  · rfl
  · exact e0.bare
  · exact Un.kept kp
  · refine ⟨m, hns, fun i y v e1 e2 e3 => ?_⟩
    rcases (show Vis scope y from e3) with k | k | k
    · exact absurd (List.mem_of_getElem? e1) (L.own _ (PySem.mem_of_lookup k) rfl)
    · exact absurd rfl (L.nc _ (PySem.mem_of_lookup k))
    · obtain ⟨m', hn, hl⟩ := I.loc
      have kx := L.free _ (PySem.mem_of_lookup k) rfl
      obtain ⟨w', r, q⟩ := hl i y v e1 e2 (kx.elim (fun k => .inr (.inl k)) (fun k => .inr (.inr k)))
      obtain ⟨c2, h2⟩ := back k
      refine ⟨w', r, .inr ⟨.inr k, c2, h2, ?_⟩⟩
      have c1 := clo_cells hfree h2
      rcases q with ⟨k', _⟩ | ⟨_, c3, e', z⟩
      · have k' : X.env.scope.names.lookup y = some .local := k'
        rcases kx with k2 | k2 <;> rw [show X.env.scope.names.lookup y = _ from k2] at k' <;> cases k'
      · rw [c1] at e'
        cases e'
        exact cellK (I.freeC y _ c1) z
  · intro y c e
    obtain ⟨w', z⟩ := I.cell y c (clo_cells hfree e)
    exact ⟨w', cellK (I.freeC y c (clo_cells hfree e)) z⟩
  · exact e0.hok.fresh (Nat.le_refl _)
  · intro y c e
    obtain ⟨v, o, ho, _⟩ := I.cell y c (clo_cells hfree e)
    exact un.free c o ho (I.freeC y c (clo_cells hfree e)) (by simp)
  · exact fun q hq => nomatch (show q ∈ ([] : List (Addr × Obj)) ++ [] from hq)
  · exact e0.hok.kept kp
  · exact I.len
end
/-! ### what was handed in is called -/
def dropO (σ : List (Option Sl)) : List (Option Sl) := σ.map fun x => match x with
  | some (.d y) => some (.d y)
  | _ => none
/-- slot i holds the lambda; m its body, σ the maker's slots -/
def act (i : Nat) (m : M D) (σ : List (Option Sl)) : M D := fun s => match s.σ[i]? with
  | some (some (.f 0)) => (match m ⟨dropO σ, s.ds⟩ with
    | .ok d s' => .ok d { s with ds := s'.ds }
    | .er x s' => .er x { s with ds := s'.ds }
    | .no => .no)
  | _ => .no
theorem dropO_d {σ : List (Option Sl)} {i : Nat} {y : Sl} (e : (dropO σ)[i]? = some (some y)) : ∃ x, y = .d x ∧ σ[i]? = some (some (.d x)) := by
  unfold dropO at e
  rw [List.getElem?_map] at e
  cases z : σ[i]? with
  | none =>
    rw [z] at e
    cases e
  | some u =>
    rw [z] at e
    match u, e with
    | some (.d x), e =>
      have e : some (some (Sl.d x)) = some (some y) := e
      cases e
      exact ⟨x, rfl, rfl⟩
    | some (.l xs), e => cases e
    | some (.f _), e => cases e
    | none, e => cases e
theorem codeO_notbl {c : Addr} {q : Str} : NoTbl (LamX.CodeO c q) := fun ps => LamX.codeO_ne ps
theorem code_nwm0 {wm : Wm} {H : Hp} {ds : Option DSt} {c : Addr} {q : Str} (m : MR wm H ds) (h : H c = some (LamX.CodeO c q)) : c ∉ wmL wm := fun z => by
  match wm, ds, m with
  | none, none, _ => simp [wmL] at z
  | some (x, y, u), some st, ⟨h1, h2, h3, _⟩ =>
    simp only [wmL, List.mem_cons, List.not_mem_nil, or_false] at z
    unfold LamX.CodeO at h
    rcases z with rfl | rfl | rfl
    · rw [h] at h1
      cases h1
    · rw [h] at h2
      cases h2
    · rw [h] at h3
      cases h3
theorem code_nwm {K : PySem.W.Frag} {T : List (Addr × Str)} {l l' : Lh} {H H' : Hp} {ds : Option DSt} {c : Addr} {q : Str} (r : Ret K T l H l' H' ds) (h : H' c = some (LamX.CodeO c q)) : c ∉ mtL l' := fun z => by
  rcases List.mem_append.mp z with z | z
  · exact code_nwm0 r.mr h z
  · obtain ⟨vs, e⟩ := r.ce.mem c z
    rw [h] at e
    unfold LamX.CodeO at e
    cases e
section
variable {X : Cx} {pins : List (Addr × Obj)} {σ : L2.St} {H : Hp} {s : Shared}
theorem le_act {CXg : CXT} {Eg : XK} {Ng : List Str} {qg : Str} {sg : Scope} {g f c' : Addr} {cdg pm ctv dV : Value} {params : Arguments} {dn : Option (Str × Int)} {body : Expr} {scope : Scope} {k i : Nat} {a : Str} {pn : List (Addr × Obj)} {xe : Value → Shared → Prop} {W : WX} {p1 p2 : Pos} {m : M D}
    {l : Lh} {SM : Lw.S} {c : Pk} {T : List (Addr × Str)} (rpM : Rep X.K c l SM σ H)
    (I : Inv X pins σ H s) (L : LamS X.N X.env.scope scope dn) (la : LamA params dn) (hf : s.heap.get? f = some (lamObj (X.env.qual ++ "<lambda>") params body scope (cloFrom X.env.cells scope.names []) pm c' ctv dV)) (hfn : H f = none) (hfr : f ∉ frs X.stack)
    (hd0 : DefAt dn dV s.heap) (hd1 : ∀ T0, dV = .ref T0 → H T0 = none ∧ T0 ∉ frs X.stack) (hc : H c' = some (LamX.CodeO c' (X.env.qual ++ "<lambda>")))
    (tk : Takes ((cxOf CXg X.prog X.w X.K X.mg X.base Ng qg sg g cdg X.A X.stack s H Eg).tr pn xe) W) (gd : X.A.guards = some []) (hr : Room (k + 1) (X.A.deeper (envOfC qg sg s.heap.objs.size g cdg)))
    (hbody : ∀ (A : Around) (outer : List Env) (s : Shared) (H : Hp) (E : XK) (cL : Pk), cL.T = T → A.guards = some [] → Room k (A.deeper (LamX.lamEnv X scope s.heap.objs.size f c')) → LE (LamX.lamCx X A outer s H E scope f c') cL (fun cls d _ H => E cls d H) body m)
    (hN : Ng[i]? = some a) (hv : Vis sg a) (hd : (a == ("__debug__" : Str)) = false := by decide) (hcd : (a == ("__classdict__" : Str)) = false := by decide) :
    LE ((cxOf CXg X.prog X.w X.K X.mg X.base Ng qg sg g cdg X.A X.stack s H Eg).tr pn xe) ⟨T, l, H, some (.ref f)⟩ W (.Call (.Name a p1) [] [] p2) (act i m SM.σ) := by
  refine ⟨fun pinsZ sZ σZ HZ Q IZ h => ?_⟩
  obtain ⟨lZ, SZ, rpZ, po⟩ := h
  unfold act at po
  split at po
  case h_2 => exact po.elim
  rename_i hslot
  obtain ⟨v0, ev0, hs⟩ := rpZ.sf i 0 hslot
  cases ev0
  have rtZ : Ret X.K T l H lZ HZ SZ.ds := rpZ.rt
  have hcZ : HZ c' = some (LamX.CodeO c' (X.env.qual ++ "<lambda>")) := rtZ.fr c' _ hc (code_nwm rpM.rt hc) codeO_notbl
  have rpL : Rep X.K ⟨T, lZ, HZ, none⟩ lZ ⟨dropO SM.σ, SZ.ds⟩ σ HZ := by
    refine ⟨rtZ.self, by rw [rpM.ln]; simp [dropO], fun j x e => ?_, fun j xs e => ?_, fun j k xs ys a n e => ?_, fun j k e => ?_⟩
    · obtain ⟨y, e1, e2⟩ := dropO_d e
      cases e1
      obtain ⟨v, h1, h2⟩ := rpM.sd j x e2
      exact ⟨v, h1, h2.grow rtZ.gr⟩
    · obtain ⟨y, e1, _⟩ := dropO_d e
      cases e1
    · obtain ⟨y, e1, _⟩ := dropO_d e
      cases e1
    · obtain ⟨y, e1, _⟩ := dropO_d e
      cases e1
  have read : liftE X.K ⟨T, lZ, HZ, none⟩ (fun cls d _ H => WE W σZ cls d H) m σ HZ Q := by
    refine ⟨lZ, _, rpL, ?_⟩
    cases e : m ⟨dropO SM.σ, SZ.ds⟩ with
    | no =>
      rw [e] at po
      exact po
    | ok d S' =>
      rw [e] at po
      exact fun v H' l' rp' g dt => po v H' l' (rpZ.on rp'.rt) g dt
    | er x S' =>
      rw [e] at po
      exact fun cls dd H' l' rp' g fl => po cls dd H' l' (rpZ.on rp'.rt) g fl
  refine wpAny_Call_Name_kw (thn ((pe_var (pos := p1) (i := i) hN hv hd hcd).run pinsZ sZ σZ HZ (fun v H1 => v = .ref f ∧ H1 = HZ) IZ ⟨.ref f, hs, rfl, rfl⟩) fun u s1 ⟨v, H1, I1, r1, q1⟩ => ?_)
  obtain ⟨ev, eH⟩ := q1
  subst ev
  rw [eH] at I1
  obtain rfl : u = Value.ref f := r1
  have un : Un (frs X.stack) [] H HZ s.heap s1.heap := I1.base
  have of1 := un.keep f _ hf hfn hfr (fun z => nomatch (show f ∈ ([] : List Addr) from z))
  have d1 : DefAt dn dV s1.heap := by
    match dn, hd0 with
    | none, d => exact d
    | some (n, j), ⟨T0, t, e, q⟩ => exact ⟨T0, t, e, un.keep T0 _ q (hd1 T0 e).1 (hd1 T0 e).2 (fun z => nomatch (show T0 ∈ ([] : List Addr) from z))⟩
  obtain ⟨⟨oc, vs, t, hoc, hdc, hvc⟩, _, _⟩ := I1.hok c' _ hcZ
  refine PySem.W.callWith_F0 ⟨_, _, _, _, of1⟩ ?_
  have rc : codeAny (model X.prog X.w) (X.A.deeper (envOfC qg sg s.heap.objs.size g cdg)) (.call (.ref f) ⟨[], []⟩) (CR (L2.CX X.prog X.w) (envOfC qg sg s.heap.objs.size g cdg :: X.stack) X.prog X.w HZ s1 Q (WE W σZ)) s1 := by
    obtain ⟨tb, hb⟩ := lam_binds la d1 (X.env.qual ++ "<lambda>") body scope (cloFrom X.env.cells scope.names []) pm (.ref c') ctv
    refine PySem.W.kla_callFunE hr.depth of1 rfl L.co L.gen rfl ⟨c', oc, vs, t, rfl, hoc, hdc, hvc⟩ (hb _ _ _ _ ?_)
    refine wpAny_newFunctionEnv L.nc (fun y hy => ?_) (fun h₁ hns hsb => ⟨I1.nolimit.fresh _ hsb, ?_⟩) L.kind
    · match dn, L, hy with
      | none, _, hy => cases hy
      | some (n, j), L, hy =>
        have hy : y ∈ [(n, Value.int j tb)] := hy
        simp only [List.mem_cons, List.not_mem_nil, or_false] at hy
        subst hy
        exact L.par n j rfl
    · show codeAny _ _ (.expr body (LamX.lamEnv X scope s1.heap.objs.size f c')) _ _
      have kp : ∀ b o, s1.heap.get? b = some o → h₁.get? b = some o := fun b o e => hsb.extBut b o (Nat.ne_of_lt (Heap.lt_size e)) (Heap.get?_push_of_some _ e)
      have J : Inv (LamX.lamCx X (X.A.deeper (envOfC qg sg s.heap.objs.size g cdg)) (envOfC qg sg s.heap.objs.size g cdg :: X.stack) s1 HZ (WE W σZ) scope f c') [] σ HZ { s1 with heap := h₁, toks := s1.toks + (lamBs dn tb).length } :=
        lam_start I L I1.env0 hr.hd un hns kp
      have hB := hbody (X.A.deeper (envOfC qg sg s.heap.objs.size g cdg)) (envOfC qg sg s.heap.objs.size g cdg :: X.stack) s1 HZ (WE W σZ) ⟨T, lZ, HZ, none⟩ rfl gd (hr.deeper _)
      refine PySem.W.kla_codeExpr (wpAny_mono (hB.run [] _ σ HZ Q J read) (fun v s' hq => ?_) fun e s' hq => hq)
      obtain ⟨w', H', J', rv, q⟩ := hq
      exact ⟨w', H', J'.os, J'.bare, J'.base, J'.hok, rv, q⟩
  refine wpAny_call (codeAny_mono rc fun r s' hq => ?_)
  cases r with
  | error e => exact passAt tk σZ pinsZ HZ s1 e s' I1 hq
  | ok fl =>
    cases fl with
    | ret u => exact I1.after hq
    | next => exact False.elim hq
    | brk => exact False.elim hq
    | cont => exact False.elim hq
end
end Lw

set_option Elab.async false
set_option linter.all false
set_option maxRecDepth 100000
set_option maxHeartbeats 4000000
/-! Lw: try: .. except (A, B, C) as e: error = e. What was caught is known from then on. -/
namespace Lw
open PySem PySem.Spec PyProof.Rows L2

theorem excO_notbl {a C : Addr} {d : Option Addr} : NoTbl (ExcO a C d) := fun ps z => by
  unfold ExcO at z
  cases z
section
variable {X : Cx} {pins : List (Addr × Obj)} {σ : L2.St} {H : Hp} {s : Shared}
/-- an object that nobody knew is known from now on -/
theorem inv_track (I : Inv X pins σ H s) {a C : Addr} {d : Option Addr} {oe : Obj} {vs : Array Value} (ha : s.heap.get? a = some oe) (hc : oe.cls = .ref C) (hdd : oe.dict = d) (hd : oe.data = .fields vs) (na : H a = none) (nL : a ≠ X.env.locals) (n0 : X.s_0.heap.get? a = none)
    (np : ∀ p ∈ X.pn ++ pins, p.1 ≠ a) : Inv X pins σ (upd H a (ExcO a C d)) s := by
  have ne : ∀ {b : Addr} {u : HO}, H b = some u → b ≠ a := fun {b u} e => ne_of_none e na
  have up : ∀ {b : Addr} {u : HO}, H b = some u → upd H a (ExcO a C d) b = some u := fun {b u} e => by
    rw [upd_ne (ne e)]
    exact e
  constructor
  · exact I.ok
  · exact I.os
  · exact I.bare
  · refine ⟨I.base.keep, I.base.slot, fun b o e n x => ?_, I.base.there, fun b xs e => up (I.base.tups b xs e), fun b o u e => up (I.base.frzs b o u e), fun b ps e => ?_⟩
    · rw [upd_ne (fun z => by rw [z, n0] at e; cases e)]
      exact I.base.free b o e n x
    · obtain ⟨more, e'⟩ := I.base.tbls b ps e
      exact ⟨more, up e'⟩
  · exact I.loc
  · exact I.cell
  · rw [upd_ne (Ne.symm nL)]
    exact I.free
  · intro x c e
    obtain ⟨v, o, ho, hv⟩ := I.cell x c e
    rw [upd_ne (fun z => by rw [z, ha] at ho; cases ho; rw [hd] at hv; cases hv)]
    exact I.freeC x c e
  · intro p hp
    obtain ⟨h1, h2, h3, h4, h5⟩ := I.pin p hp
    refine ⟨h1, ?_, h3, h4, h5⟩
    rw [upd_ne (np p hp)]
    exact h2
  · intro b u e
    by_cases hb : b = a
    · subst hb
      rw [upd_same] at e
      cases e
      exact ⟨⟨oe, vs, ha, hc, hdd, hd⟩, ⟨oe, ha⟩, fun h1 h2 ⟨o, ws, q1, q2, q3, q4⟩ k => ⟨o, ws, k _ q1, q2, q3, q4⟩⟩
    · rw [upd_ne hb] at e
      exact (I.hok b u e).stay (fun _ _ _ q => q) (fun _ q => up q) (fun _ _ q => up q)
  · exact I.len
end
theorem flying_keeps {B h h' : Heap} {l : List Env} {a : Addr} {Z : Obj → Prop} (k : ∀ b o, h.get? b = some o → h'.get? b = some o) (f : HandSPX.FlyingZ B l a Z h) : HandSPX.FlyingZ B l a Z h' := by
  obtain ⟨f1, f2, f3, oe, vs, T, oT, ts, h1, h2, h3, h4, h5, h6, h7, h8, h9⟩ := f
  exact ⟨fun b o e => k b o (f1 b o e), f2, Heap.FunFrames.of_keeps (fun b o e _ => ⟨o, k b o e, rfl⟩) f3, oe, vs, T, oT, ts, k _ _ h1, h2, h3, h4, h5, h6, k _ _ h7, h8, h9⟩
/-- a slot is emptied -/
theorem Rep.unset {K : PySem.W.Frag} {c : Pk} {l : Lh} {S : Lw.S} {σ : L2.St} {H : Hp} (r : Rep K c l S σ H) (i : Nat) (v : Option V) : Rep K c l { S with σ := S.σ.set i none } (σ.set i v) H := by
  have at_ : ∀ {j : Nat} {x : Sl}, (S.σ.set i none)[j]? = some (some x) → i ≠ j ∧ S.σ[j]? = some (some x) := fun {j x} e => by
    by_cases h : i = j
    · subst h
      have hl : i < S.σ.length := by
        have := (List.getElem?_eq_some_iff.mp e).1
        simpa using this
      rw [List.getElem?_set_self hl] at e
      cases e
    · rw [List.getElem?_set_ne h] at e
      exact ⟨h, e⟩
  refine ⟨r.rt, by simpa using r.ln, fun j x e => ?_, fun j xs e => ?_, fun j k xs ys a n e1 e2 e3 e4 => ?_, fun j k e => ?_⟩
  · obtain ⟨h, e⟩ := at_ e
    rw [List.getElem?_set_ne h]
    exact r.sd j x e
  · obtain ⟨h, e⟩ := at_ e
    rw [List.getElem?_set_ne h]
    exact r.so j xs e
  · obtain ⟨h, e1⟩ := at_ e1
    obtain ⟨h', e2⟩ := at_ e2
    rw [List.getElem?_set_ne h] at e3
    rw [List.getElem?_set_ne h'] at e4
    exact r.di j k xs ys a n e1 e2 e3 e4
  · obtain ⟨h, e⟩ := at_ e
    rw [List.getElem?_set_ne h]
    exact r.sf j k e
/-- what flies stands once it is known -/
theorem Fly.dt {K : PySem.W.Frag} {l : Lh} {a : Addr} {cls : Value} {dd : Option Addr} {cn : String} {ds : List D} (f : Fly K l cls dd (.exc cn ds)) (na : l.L a = none) : ∃ C, cls = .ref C ∧ Dt K ⟨upd l.L a (ExcO a C dd), l.wm, l.cl⟩ (.ref a) (.exc cn ds) := by
  have g : ∀ C, Gr l ⟨upd l.L a (ExcO a C dd), l.wm, l.cl⟩ := fun C => ⟨(Ext.refl _).upd na, .inr rfl, [], by simp⟩
  match ds, f with
  | [], f =>
    obtain ⟨e1, e2⟩ := f
    subst e2
    exact ⟨_, e1, .exc0 upd_same⟩
  | [x], f =>
    obtain ⟨fl, dx, v, e0, e1, e2, e3, dt⟩ := f
    subst e2
    refine ⟨_, e1, .exc1 e0 upd_same ?_ (dt.grow (g _))⟩
    show upd l.L a _ dx = _
    rw [upd_ne (fun z => by rw [z, na] at e3; cases e3)]
    exact e3
/-- the body; or, behind an exception of one of these classes, error's slot ir holds it and e's slot ie is empty -/
def sTry (cs : List String) (ie ir : Nat) (b : M Fl) : M Fl := fun s => match b s with
  | .ok f s' => .ok f s'
  | .er (.exc cn ds) s' => if cs.contains cn then .ok .nx { s' with σ := (s'.σ.set ir (some (.d (.exc cn ds)))).set ie none } else .no
  | _ => .no
section
variable {X : Cx} {c : Pk} {W : WX}
theorem ls_try {cs : List String} {ie ir : Nat} {b : M Fl} {body : List Stmt} {x1 x2 x3 n r : Str} {C1 C2 C3 : Value} {kk} {p1 p2 p3 pt q1 q2 q3 pos pos' : Pos} (hs : X.stack = X.env :: X.outer) (hf : X.env.frame = some X.env.locals) (hex : X.ex = []) (hN : X.N.Nodup)
    (hie : X.N[ie]? = some n) (hir : X.N[ir]? = some r) (hne : ie ≠ ir) (hln : X.env.kindOf n = some .local) (hlr : X.env.kindOf r = some .local) (dn : (n == ("__debug__" : Str)) = false) (dn' : (n == ("__classdict__" : Str)) = false)
    (g1 : Gl X x1) (g2 : Gl X x2) (g3 : Gl X x3) (d1 : (x1 == ("__debug__" : Str)) = false) (d2 : (x2 == ("__debug__" : Str)) = false) (d3 : (x3 == ("__debug__" : Str)) = false) (m1 : X.mg x1 = some C1) (m2 : X.mg x2 = some C2) (m3 : X.mg x3 = some C3)
    (hcs : ∀ cn ∈ cs, PySem.W.exmAny X.K (.ref (cAd X.K cn)) [C1, C2, C3] = some true)
    (hb : ∀ (W' : WX) (pn : List (Addr × Obj)) (xe : Value → Shared → Prop), Takes (X.tr pn xe) W' → PassesOwn (model X.prog X.w) X.A X.env xe → LB (X.tr pn xe) c W' body b) :
    LS X c W (.Try body [.ExceptHandler (some (.Tuple [.Name x1 p1, .Name x2 p2, .Name x3 p3] kk pt)) (some n) [.Assign [.Name r q1] (.Name n q2) q3] pos'] [] [] pos) (sTry cs ie ir b) := by
  refine ⟨fun pins s σ H D I h => ?_⟩
  obtain ⟨l, S, rp, po⟩ := h
  have ok := I.ok
  have hfr : X.A.frames = some (X.env :: X.outer) := by rw [ok.frames, hs]
  have hloc : Loc X.env.scope n := .inl hln
  have hlocr : Loc X.env.scope r := .inl hlr
  -- what is wanted of the body
  have read : liftS X.K c (fun cls d σ' H' => ∃ cn ds l' S', b S = .er (.exc cn ds) S' ∧ cs.contains cn = true ∧ Rep X.K c l' S' σ' H' ∧ Gr l l' ∧ Fly X.K l' cls d (.exc cn ds)) b D σ H := by
    refine ⟨l, S, rp, ?_⟩
    unfold sTry at po
    cases e : b S with
    | ok f S' =>
      rw [e] at po
      cases f <;> exact po
    | no =>
      rw [e] at po
      exact po
    | er x S' =>
      rw [e] at po
      intro cls dd σ' H' l' rp' g f
      cases x with
      | exc cn ds =>
        dsimp only at po
        by_cases hc : cs.contains cn = true
        · exact ⟨cn, ds, l', S', rfl, hc, rp', g, f⟩
        · rw [if_neg hc] at po
          exact po.elim
      | _ => exact f.elim
  refine wpAny_Try_except ?_
  refine wpAny_mono ((hb _ (X.pn ++ pins) (fun e s₁ => wpAny (model X.prog X.w) X.A (noteFrame e X.env) (fun _ s₂ => wpAny (model X.prog X.w) X.A (setFlight e none) (fun _ s₃ =>
    wpAny (model X.prog X.w) X.A (handleBy e X.env [.ExceptHandler (some (.Tuple [.Name x1 p1, .Name x2 p2, .Name x3 p3] kk pt)) (some n) [.Assign [.Name r q1] (.Name n q2) q3] pos']) (SP X pins D) X.xe s₃) X.xe s₂) X.xe s₁) (fun u s' xx => ?_) PassesOwn.looking).run [] s σ H D (I.toTry _) read) (fun f s1 hsp => ?_) (fun e s1 he => he)
  · obtain ⟨a, B, sI, pins', σ', H', cls, d, rfl, J', nb, up, sky, na, os, ag, cn, ds, l', S', eb, hcn, rp', g', fly⟩ := xx
    have J : Inv X pins σ' H' sI := J'.ofTry ok
    have sky' : Sky B (X.env :: X.outer) a (Zc cls d) X.env.locals s'.heap := by rw [← hs]; exact sky
    show wpAny (model X.prog X.w) X.A (noteFrame (.ref a) X.env) _ _ _
    refine Sky.land Zc.steady hfr hf sky' fun h3 fl3 up3 => ?_
    have J3 : Inv X pins σ' H' { s' with heap := h3 } := J.landed nb fl3.1 (up.trans up3) os ag
    obtain ⟨oe3, vs3, he3, hz3, hd3⟩ := fl3.there
    have nfr : a ∉ frs (X.env :: X.outer) := fun hm => by
      obtain ⟨_, o', e', hnf⟩ := fl3.2.2.1.mem hm
      rw [he3] at e'
      cases e'
      exact hnf _ hd3
    have nL : a ≠ X.env.locals := fun z => nfr (List.mem_filterMap.mpr ⟨X.env, List.mem_cons_self, by rw [hf, z]⟩)
    have nF : a ∉ X.fs := fun hm => by
      obtain ⟨e, he, q⟩ := List.mem_filterMap.mp hm
      exact nfr (List.mem_filterMap.mpr ⟨e, List.mem_cons_of_mem _ he, q⟩)
    have nI : sI.heap.get? a = none := by
      cases e : sI.heap.get? a with
      | none => rfl
      | some o =>
        have := nb a o e (by rw [hs]; exact nfr)
        rw [fl3.2.1] at this
        cases this
    have n0 : X.s_0.heap.get? a = none := by
      cases e : X.s_0.heap.get? a with
      | none => rfl
      | some o =>
        obtain ⟨o', e'⟩ := J.base.there a o e (by rw [hex]; simp)
        rw [nI] at e'
        cases e'
    have np : ∀ p ∈ X.pn ++ pins, p.1 ≠ a := fun p hp z => by
      have := (J.pin p hp).1
      rw [z, nI] at this
      cases this
    obtain ⟨CC, hCC, dt⟩ := fly.dt (rp'.rt.lh.none na)
    have S3 := J3.suite he3 hd3 na nL nF
    refine wpAny_handleBy_cons (codeAny_handlers_test ?_) (by intro q; cases q)
    refine wpAny_Tuple_spliced (spliced_more (ld_glob (X := X.suite a ((a, oe3) :: (X.pn ++ pins))) S3 g1 m1 ?_ d1))
    refine spliced_more (ld_glob (X := X.suite a ((a, oe3) :: (X.pn ++ pins))) S3 g2 m2 ?_ d2)
    refine spliced_more (ld_glob (X := X.suite a ((a, oe3) :: (X.pn ++ pins))) S3 g3 m3 ?_ d3)
    refine spliced_none ⟨by rw [sizeLine_eq]; exact (by decide : 3 ≤ 16777216), ?_⟩
    have k4 : ∀ b o, h3.get? b = some o → (h3.push { cls := .type "tuple", data := .seq [C1, C2, C3].toArray }).get? b = some o := fun b o e => Heap.get?_push_of_some _ e
    have fl4 := flying_keeps k4 fl3
    have LT : PySem.W.Looks (model X.prog X.w) (h3.push { cls := .type "tuple", data := .seq [C1, C2, C3].toArray }) (typeOf (.ref a)) cls := fun A Q E s k q => wpAny_typeOf_ref (k _ _ (k4 _ _ he3)) (by rw [hz3.1]; exact q)
    have hx : PySem.W.exmAny X.K cls [C1, C2, C3] = some true := by
      have e : cls = .ref (cAd X.K cn) := by
        match ds, fly with
        | [], f => exact f.1
        | [x], ⟨_, _, _, _, e, _⟩ => exact e
      rw [e]
      exact hcs cn (by simpa using hcn)
    have LM := PySem.W.exm_tup3 (M := model X.prog X.w) (J3.kIn.keeps k4) LT (Heap.get?_push_size _ rfl) hx
    refine LM.here ?_
    refine codeAny_handlers_suite_as ?_
    refine HandSPX.lands_againZ fl4 fun h5 fl5 up5 => ?_
    have up4 : h3.UpToSlots (h3.push { cls := .type "tuple", data := .seq [C1, C2, C3].toArray }) := Heap.UpToSlots.of_keeps k4
    have J5 : Inv X pins σ' H' { s' with heap := h5 } := J.landed nb fl5.1 (((up.trans up3).trans up4).trans up5) os ag
    obtain ⟨oe5, vs5, he5, hz5, hd5⟩ := fl5.there
    have S5 := J5.suite he5 hd5 na nL nF
    refine store_ok (X := X.suite a ((a, oe5) :: (X.pn ++ pins))) (v := .ref a) S5 hN hie hloc rfl (fun s6 S6 => ?_) (.inr hln)
    have suite : PSs (X.suite a ((a, oe5) :: (X.pn ++ pins))) [.Assign [.Name r q1] (.Name n q2) q3] (tAsg (tVar ie) (gName ir)) := pss_one (ps_set (i := ir) hN hir hlocr (pe_var (i := ie) hie (.inl hln) dn dn') rfl (.inr hlr))
    have hil : ie < σ'.length := by
      rw [J.len]
      exact (List.getElem?_eq_some_iff.mp hie).1
    refine wpAny_mono (suite.run [] s6 (σ'.set ie (some (.ref a))) H' { nx := fun σ7 H7 => σ7 = (σ'.set ie (some (.ref a))).set ir (some (.ref a)) ∧ H7 = H', rt := fun _ _ => False, bk := fun _ _ => False, ct := fun _ _ => False } S6 ⟨.ref a, List.getElem?_set_self hil, rfl, rfl⟩) (fun f s7 hsp => ?_) (fun _ _ z => False.elim z)
    cases f with
    | brk =>
      obtain ⟨_, _, _, q⟩ := hsp
      exact q.elim
    | cont =>
      obtain ⟨_, _, _, q⟩ := hsp
      exact q.elim
    | ret u =>
      obtain ⟨_, _, _, _, _, q⟩ := hsp
      exact q.elim
    | next =>
      obtain ⟨σ7, H7, S7, rfl, rfl⟩ := hsp
      have ha7 := (S7.pin (a, oe5) (List.mem_append_left _ List.mem_cons_self)).1
      have I7 : Inv X pins ((σ'.set ie (some (.ref a))).set ir (some (.ref a))) (upd H7 a (ExcO a CC d)) s7 := inv_track (S7.unsuite ok) ha7 (hz5.1.trans hCC) hz5.2 hd5 na nL n0 np
      refine gone_ok I7 hN hie hln fun s8 I8 => ⟨_, _, I8, ?_⟩
      unfold sTry at po
      rw [eb] at po
      dsimp only at po
      rw [if_pos hcn] at po
      have e8 : ((σ'.set ie (some (V.ref a))).set ir (some (V.ref a))).set ie none = (σ'.set ir (some (V.ref a))).set ie none := by
        rw [List.set_comm _ _ hne, List.set_set]
      rw [e8]
      obtain ⟨rp8, g8⟩ := rp'.lay (o := ExcO a CC d) na excO_notbl
      exact po _ _ _ ((rp8.set (i := ir) dt).unset ie none) (g'.trans g8)
  · cases f with
    | next =>
      obtain ⟨σ', H', J', q⟩ := hsp
      exact wpAny_execs_nil ⟨σ', H', J'.ofTry ok, q⟩
    | brk =>
      obtain ⟨σ', H', J', q⟩ := hsp
      exact ⟨σ', H', J'.ofTry ok, q⟩
    | cont =>
      obtain ⟨σ', H', J', q⟩ := hsp
      exact ⟨σ', H', J'.ofTry ok, q⟩
    | ret u =>
      obtain ⟨v, σ', H', J', r, q⟩ := hsp
      exact ⟨v, σ', H', J'.ofTry ok, r, q⟩
end
end Lw

set_option Elab.async false
set_option linter.all false
set_option maxRecDepth 100000
set_option maxHeartbeats 4000000
/-! Lw: a def is called with a lambda. -/
namespace Lw
open PySem PySem.Spec PyProof.Rows L2

/-- tables grow, all else stays -/
theorem Ret.tab {K : PySem.W.Frag} {T : List (Addr × Str)} {l : Lh} {H H1 : Hp} {ds : Option DSt} (r : Ret K T l H l H ds) (eN : LamX.ExtN H H1) (fd : ∀ b, H1 b = none → H b = none) (tb : LamX.Tabs T H1) : Ret K T l H l H1 ds where
  gr := Gr.refl _
  lh := fun a o e => eN a o (r.lh a o e) (r.nt a o e)
  nw := fun _ _ e => .inl e
  ml := r.ml
  nt := r.nt
  fr := fun a o e _ n => eN a o e n
  fd := fd
  tb := tb
  wk := .inl rfl
  ck := fun _ h => .inl h
  ce := r.ce.step (Gr.refl _) rfl rfl fun a ha o e => by
    obtain ⟨vs, e2⟩ := r.ce.mem a ha
    rw [e2] at e
    cases e
    exact eN _ _ e2 (fun _ z => nomatch z)
  mr := by
    match l.wm, ds, r.mr with
    | none, none, _ => trivial
    | some (x, y, z), some st, ⟨h1, h2, h3, h4⟩ => exact ⟨eN _ _ h1 (fun _ z => nomatch z), eN _ _ h2 (fun _ z => nomatch z), eN _ _ h3 (fun _ z => nomatch z), h4⟩
  sm := by
    obtain ⟨ob, e⟩ := r.sm
    exact ⟨ob, eN _ _ e (fun _ z => nomatch z)⟩

abbrev E0 : XK := fun _ _ _ => False
/-- the body of a def that calls what it is handed in by the name a: b, of what that call tells -/
def Hears (P : Program) (w : World) (K : PySem.W.Frag) (mg : Str → Option Value) (base : Heap) (T : List (Addr × Str)) (k : Nat) (x : Str) (Ng : List Str) (sg : Scope) (g : Addr) (bg : List Stmt) (a : Str) (b : M D → M Fl) : Prop :=
  ∀ (cdv : Value) (A : Around) (outer : List Env) (s : Shared) (H : Hp) (cZ : Pk) (am : M D), cZ.T = T → A.guards = some [] → Room k (A.deeper (envOfC x sg s.heap.objs.size g cdv)) →
    (∀ (pn : List (Addr × Obj)) (xe : Value → Shared → Prop) (W' : WX) (p1 p2 : Pos), Takes ((cxOf (L2.CX P w) P w K mg base Ng x sg g cdv A outer s H E0).tr pn xe) W' → LE ((cxOf (L2.CX P w) P w K mg base Ng x sg g cdv A outer s H E0).tr pn xe) cZ W' (.Call (.Name a p1) [] [] p2) am) →
    LB (cxOf (L2.CX P w) P w K mg base Ng x sg g cdv A outer s H E0) cZ noW bg (b am)
structure HearM (P : Program) (w : World) (K : PySem.W.Frag) (mg : Str → Option Value) (base : Heap) (T : List (Addr × Str)) (k : Nat) (x a : Str) (n : Nat) (b : M D → M Fl) : Prop where
  ex : ∃ g fd pg bg sg Ng, mg x = some (.ref g) ∧ PySem.W.keepIn K (.ref g) = true ∧ FunD K x x pg bg sg [] [] g fd ∧ FnScope Ng [a] sg ∧
    (∀ (kV doc pm : Value) (an : Option Addr) (cdv ct : Value) (us : List Value), us.length = 1 → bindArgs (PySem.W.fnOf x x pg bg sg .none kV doc pm an cdv ct) ⟨us, []⟩ = pure ([a].zip us)) ∧ Ng[0]? = some a ∧ Vis sg a ∧ Ng.length = n + 1 ∧ Hears P w K mg base T k x Ng sg g bg a b
theorem HearM.mono {P : Program} {w : World} {K : PySem.W.Frag} {mg : Str → Option Value} {base : Heap} {T : List (Addr × Str)} {j k : Nat} {x a : Str} {n : Nat} {b : M D → M Fl} (F : HearM P w K mg base T j x a n b) (h : j ≤ k) : HearM P w K mg base T k x a n b := by
  obtain ⟨g, fd, pg, bg, sg, Ng, h1, h2, h3, h4, h5, h6, h7, h8, h9⟩ := F.ex
  exact ⟨⟨g, fd, pg, bg, sg, Ng, h1, h2, h3, h4, h5, h6, h7, h8, fun cdv A outer s H cZ am e gd hr ha => h9 cdv A outer s H cZ am e gd (hr.mono h) ha⟩⟩
theorem HearM.cast {P : Program} {w : World} {K : PySem.W.Frag} {mg : Str → Option Value} {base : Heap} {T T' : List (Addr × Str)} {k : Nat} {x a : Str} {n : Nat} {b : M D → M Fl} (F : HearM P w K mg base T k x a n b) (e : T' = T) : HearM P w K mg base T' k x a n b := by
  subst e
  exact F
def mHear (n : Nat) (b : M D → M Fl) (m : M D) : M D := fun s => match b (act 0 m s.σ) ⟨some (.f 0) :: List.replicate n none, s.ds⟩ with
  | .ok (.rt d) s' => .ok d { s with ds := s'.ds }
  | .ok .nx s' => .ok .non { s with ds := s'.ds }
  | _ => .no
section
variable {X : Cx} {c : Pk} {W : WX}
theorem le_hear {x a : Str} {n k : Nat} {b : M D → M Fl} {cc P0 : Addr} {params : Arguments} {dn : Option (Str × Int)} {body : Expr} {scope : Scope} {m : M D} {p lpos pos : Pos} (Hm : HearM X.prog X.w X.K X.mg X.base c.T (k + 1) x a n b) (hr : Room (k + 2) X.A) (gd : X.A.guards = some [])
    (TB : LamX.TabB X.base X.mg cc P0) (hcode : X.env.code = .ref cc) (hmT : (P0, X.env.qual ++ "<lambda>") ∈ c.T) (hu : ∀ p ∈ c.T, p.1 = P0 → p.2 = X.env.qual ++ "<lambda>") (la : LamA params dn) (L : LamS X.N X.env.scope scope dn)
    (hbody : ∀ (f c' : Addr) (A : Around) (outer : List Env) (s : Shared) (H : Hp) (E : XK) (cL : Pk), cL.T = c.T → A.guards = some [] → Room k (A.deeper (LamX.lamEnv X scope s.heap.objs.size f c')) → LE (LamX.lamCx X A outer s H E scope f c') cL (fun cls d _ H => E cls d H) body m)
    (hg : Gl X x := by rfl) (hdb : (x == ("__debug__" : Str)) = false := by decide) (hd : (a == ("__debug__" : Str)) = false := by decide) (hcd : (a == ("__classdict__" : Str)) = false := by decide) :
    LE X c W (.Call (.Name x p) [.Lambda params body scope lpos] [] pos) (mHear n b m) := by
  obtain ⟨g, fd, pg, bg, sg, Ng, hm, hk, F, Sc, hbd, hN0, hva, hlen, HR⟩ := Hm.ex
  refine ⟨fun pins s σ H Q I h => ?_⟩
  obtain ⟨l, S, rp, po⟩ := h
  refine wpAny_Call_Name_kw (ld_glob I hg hm ?_ hdb)
  refine PySem.W.callWith_K (h₀ := X.base) I.ok.mod.kin hk ?_ (by rfl) (by rfl)
  show wpAny _ _ (spliced ((false, eval (.Lambda params body scope lpos) X.env) :: backTo pos (starEach [] X.env))) _ _ s
  refine Calls.spliced_cons (lam_make I TB hcode hmT hu rp.rt.tb la (L.has I.ok) fun f c' pm' ctv dV H1 s' I1 eN fd1 T1 hf hfn hfr hco hd0 hd1 => ?_)
  refine Calls.spliced_nil ⟨I1.kIn, ?_⟩
  have rt1 : Ret X.K c.T l H l H1 S.ds := rp.rt.self.tab eN fd1 T1
  have rpM : Rep X.K c l S σ H1 := rp.on rt1
  have hb2 := F.bindsA (ps := [a]) hbd s' [.ref f] rfl
  obtain ⟨oc, od, dV', kV, doc, pm, an, cdv, ct, osl, rfl, lk, hcdv, _, _⟩ := F.ex
  have rc : codeAny (model X.prog X.w) X.A (.call (.ref g) ⟨[.ref f], []⟩) (CR (L2.CX X.prog X.w) X.stack X.prog X.w H1 s' Q E0) s' := by
    refine LamX.run_ofS (N := Ng) (ps := [a]) (vs := [.ref f]) lk hcdv Sc hr I1.env0 hb2 (.cons rfl .nil) rfl fun hr' => ?_
    refine ⟨_, HR cdv X.A X.stack s' H1 ⟨c.T, l, H1, some (.ref f)⟩ (act 0 m S.σ) rfl gd hr' (fun pn xe W' p1 p2 tk => ?_), ?_⟩
    · exact le_act (i := 0) rpM I1 L la hf hfn hfr hd0 hd1 hco tk gd hr' (fun A outer s H E cL eT g r => hbody f c' A outer s H E cL eT g r) hN0 hva hd hcd
    · have hst : L2.start Ng [V.ref f] = some (V.ref f) :: List.replicate n none := by
        unfold L2.start
        simp [hlen]
      refine ⟨l, ⟨some (.f 0) :: List.replicate n none, S.ds⟩, ?_, ?_⟩
      · rw [hst]
        have none_ : ∀ (i : Nat) (y : Sl), (some (Sl.f 0) :: List.replicate n none)[i]? = some (some y) → i = 0 ∧ y = .f 0 := fun i y e => by
          cases i with
          | zero =>
            simp at e
            exact ⟨rfl, e.symm⟩
          | succ i =>
            rw [List.getElem?_cons_succ, List.getElem?_replicate] at e
            split at e <;> cases e
        refine ⟨rt1.self, by simp, fun i y e => ?_, fun i ys e => ?_, fun i j ys zs u _ e => ?_, fun i k e => ?_⟩
        · cases (none_ i _ e).2
        · cases (none_ i _ e).2
        · cases (none_ i _ e).2
        · obtain ⟨rfl, q⟩ := none_ i _ e
          cases q
          exact ⟨.ref f, rfl, rfl⟩
      · unfold mHear at po
        cases e : b (act 0 m S.σ) ⟨some (.f 0) :: List.replicate n none, S.ds⟩ with
        | no =>
          rw [e] at po
          exact po
        | er y S' =>
          rw [e] at po
          exact po.elim
        | ok fl S' =>
          rw [e] at po
          intro σ' H' l' rp' g'
          cases fl with
          | nx => exact po .non H' l' (rpM.on rp'.rt) rp'.rt.gr .non
          | rt d => exact fun v dt => po v H' l' (rpM.on rp'.rt) rp'.rt.gr dt
          | bk => exact po.elim
          | ct => exact po.elim
  refine wpAny_call (codeAny_mono rc fun r s2 hq => ?_)
  cases r with
  | error e =>
    obtain ⟨_, _, _, _, _, _, _, _, _, _, _, _, z⟩ := hq
    exact z.elim
  | ok fl =>
    cases fl with
    | ret u => exact I1.after hq
    | next => exact False.elim hq
    | brk => exact False.elim hq
    | cont => exact False.elim hq
end
end Lw

set_option Elab.async false
set_option linter.all false
set_option maxRecDepth 100000
set_option maxHeartbeats 4000000
/-! Lw: exceptions looked at: isinstance, a field. -/
namespace Lw
open PySem PySem.Spec PyProof.Rows L2

def dIsP (cs : List String) (p : String → Bool) : D → Option D
  | .exc cn _ => if cs.contains cn then some (.bl (p cn)) else none
  | _ => none
def dFld (cs : List String) (f : String) : D → Option D
  | .exc cn [x] => if cs.contains cn = true ∧ fldOf cn = some f then some x else none
  | _ => none
/-- what the class says where its instances are looked at -/
structure ExA (K : PySem.W.Frag) (cn : String) : Prop where
  cl : (PySem.W.clsIn K (cAd K cn)).isSome = true
  hd : PySem.W.hasDictIn K (cAd K cn) = true
  ga : PySem.W.findIn K (.ref (cAd K cn)) "__getattribute__" = some (some (.builtin "BaseException.__getattribute__"))
  gg : PySem.W.findIn K (.ref (cAd K cn)) "__getattr__" = some none
  ex : PySem.W.subIn K (.ref (cAd K cn)) (.type "BaseException") = some true
  ca : PySem.W.findIn K (.ref (cAd K cn)) "__class__" = some (some (.builtin "object.__class__"))
  sp : PySem.W.specialIn K (.builtin "object.__class__") "__get__" = some (some (.builtin "getset_descriptor.__get__"))
  tk : PySem.W.takesIn K (.builtin "object.__class__") = some true
  ob : PySem.W.mroIn K (cAd K cn) (.type "object") = some true
  no : ∀ f, fldOf cn = some f → PySem.W.findIn K (.ref (cAd K cn)) (Str.ofString f) = some none
section
variable {X : Cx} {c : Pk} {W : WX}
theorem exc_inst {pins : List (Addr × Obj)} {σ : L2.St} {H : Hp} {s : Shared} {l : Lh} {a : Addr} {cn : String} {ds : List D} (I : Inv X pins σ H s) (x : Ext l.L H) (d : Dt X.K l (.ref a) (.exc cn ds)) : ∃ oe od, PySem.W.InstAt s.heap a oe (cAd X.K cn) od := by
  have mk : ∀ {dd : Option Addr} {od : Option Obj}, H a = some (ExcO a (cAd X.K cn) dd) → (match dd, od with | some dx, some o => s.heap.get? dx = some o | none, none => True | _, _ => False) → ∃ oe od, PySem.W.InstAt s.heap a oe (cAd X.K cn) od := fun {dd od} h hm => by
    obtain ⟨⟨oe, vs, h1, h2, h3, h4⟩, _⟩ := I.hok a _ h
    refine ⟨oe, od, h1, h2, by unfold PySem.W.notCls; rw [h4], ?_⟩
    rw [h3]
    exact hm
  cases d with
  | exc0 h => exact mk (od := none) (x _ _ h) trivial
  | @exc1 _ dx _ f v y hf h1 h2 dt =>
    obtain ⟨mA, hns, _⟩ := I.hok dx _ (x _ _ h2)
    obtain ⟨o, es, ep, ho, _⟩ := hns
    exact mk (od := some o) (x _ _ h1) ho
theorem call_isX {u : Value} : CallR X (.builtin "isinstance") (fun xs H Q => ∃ (a : Addr) (cn : String) (ds : List D) (l : Lh) (cv : V) (b : Bool), xs = [.ref a, cv] ∧ (∀ w, RelV cv w → w = u) ∧ Ext l.L H ∧ Dt X.K l (.ref a) (.exc cn ds) ∧ ExA X.K cn ∧ PySem.W.kitOne X.K (.ref (cAd X.K cn)) u = some b ∧ Q (.bl b) H) := by
  intro pins s σ H xs us Q I r h
  obtain ⟨a, cn, ds, l, cv, b, rfl, hcv, x, dt, C, e, q⟩ := h
  obtain ⟨u1, u2, rfl, r1, r2⟩ := vals2 r
  cases (show u1 = Value.ref a from r1)
  have ec := hcv _ r2
  subst ec
  obtain ⟨oe, od, J⟩ := exc_inst I x dt
  exact PySem.W.kia_one (PySem.W.kitx_exc C.cl C.ga C.gg C.ex C.ca C.sp C.tk C.ob) I.kIn J e (fun z => nomatch z) fun tk => ⟨.bl b, H, I.tok tk, rfl, q⟩
theorem exc_ref {K : PySem.W.Frag} {l : Lh} {H : Hp} {v : V} {cn : String} {ds : List D} (r : Rv K l H v (.exc cn ds)) : ∃ a, v = .ref a ∧ Dt K l (.ref a) (.exc cn ds) := by
  rcases r with r | ⟨a, vs, ds', rfl, e, _⟩
  · cases r with
    | exc0 h => exact ⟨_, rfl, .exc0 h⟩
    | exc1 h0 h1 h2 d => exact ⟨_, rfl, .exc1 h0 h1 h2 d⟩
  · cases e
/-- isinstance(e, C), e an exception of one of the classes cs; C a class of the program -/
theorem le_isX {cs : List String} {e : Expr} {o : Opd} {x : Str} {C : Addr} {b : String → Bool} {p q pos : Pos} (hA : ∀ cn ∈ cs, ExA X.K cn ∧ PySem.W.kitOne X.K (.ref (cAd X.K cn)) (.ref C) = some (b cn)) (hm : X.mg "isinstance" = none) (hx : X.mg x = some (.ref C)) (h : LO X c W e o) (hg : Gl X "isinstance" := by rfl) (hgx : Gl X x := by rfl)
    (hd : (x == ("__debug__" : Str)) = false := by decide) (hs : starEach [e, .Name x q] X.env = (false, eval e X.env) :: starEach [.Name x q] X.env := by rfl) (hs2 : starEach [.Name x q] X.env = (false, eval (.Name x q) X.env) :: starEach [] X.env := by rfl)
    (hpl : (backTo pos (starEach [.Name x q] X.env)).any (·.1) = false := by rfl) : LE X c W (.Call (.Name "isinstance" p) [e, .Name x q] [] pos) (m1 (dIsP cs b) o) :=
  PE.imp (pe_callB (call_isX (u := .ref C)) hg hm boot_isinstance (pa_cons h (pa_cons (pe_glob (v := .ref C) hgx hx rfl hd) pa_nil hs2) hs) (he := hs) (hpl := hpl)) fun σ H Q ⟨l, S, rp, po⟩ => by
    refine ⟨l, S, rp, Po.bind (R := RO X.K σ o) po fun y S1 v H1 l1 _ rp1 g1 q1 po1 => ?_⟩
    obtain ⟨d, rv, po2⟩ := Po.rd rp1 (Gr.refl _) q1 po1
    obtain ⟨z, ez, po3⟩ := Po.opt po2
    cases d with
    | exc cn ds =>
      unfold dIsP at ez
      dsimp only at ez
      by_cases hc : cs.contains cn = true
      · rw [if_pos hc] at ez
        cases ez
        obtain ⟨a, rfl, dt⟩ := exc_ref rv
        obtain ⟨A1, A2⟩ := hA cn (by simpa using hc)
        exact ⟨a, cn, ds, l1, .ref C, b cn, rfl, fun w r => r, rp1.rt.lh, dt, A1, A2, po3 _ H1 l1 rp1 (Gr.refl _) (.bl _)⟩
      · rw [if_neg hc] at ez
        cases ez
    | _ => cases ez
/-- which of the exceptions are a ValueError -/
def isVal (cn : String) : Bool := !(cn == "Stuck" || cn == "TooGreat")

/-- .. a class of the language -/
theorem le_isXT {cs : List String} {e : Expr} {o : Opd} {x : Str} {t : String} {b : String → Bool} {p q pos : Pos} (hA : ∀ cn ∈ cs, ExA X.K cn ∧ PySem.W.kitOne X.K (.ref (cAd X.K cn)) (.type t) = some (b cn)) (hm : X.mg "isinstance" = none) (hx : X.mg x = none) (h : LO X c W e o) (hv : bootBuiltins x = some (.type t) := by decide +kernel) (hg : Gl X "isinstance" := by rfl) (hgx : Gl X x := by rfl)
    (hn : x ≠ "__name__" := by decide) (hd : (x == ("__debug__" : Str)) = false := by decide) (hs : starEach [e, .Name x q] X.env = (false, eval e X.env) :: starEach [.Name x q] X.env := by rfl) (hs2 : starEach [.Name x q] X.env = (false, eval (.Name x q) X.env) :: starEach [] X.env := by rfl)
    (hpl : (backTo pos (starEach [.Name x q] X.env)).any (·.1) = false := by rfl) : LE X c W (.Call (.Name "isinstance" p) [e, .Name x q] [] pos) (m1 (dIsP cs b) o) :=
  PE.imp (pe_callB (call_isX (u := .type t)) hg hm boot_isinstance (pa_cons h (pa_cons (pe_bltn (v := .ty t) hgx hx hv rfl hn hd) pa_nil hs2) hs) (he := hs) (hpl := hpl)) fun σ H Q ⟨l, S, rp, po⟩ => by
    refine ⟨l, S, rp, Po.bind (R := RO X.K σ o) po fun y S1 v H1 l1 _ rp1 g1 q1 po1 => ?_⟩
    obtain ⟨d, rv, po2⟩ := Po.rd rp1 (Gr.refl _) q1 po1
    obtain ⟨z, ez, po3⟩ := Po.opt po2
    cases d with
    | exc cn ds =>
      unfold dIsP at ez
      dsimp only at ez
      by_cases hc : cs.contains cn = true
      · rw [if_pos hc] at ez
        cases ez
        obtain ⟨a, rfl, dt⟩ := exc_ref rv
        obtain ⟨A1, A2⟩ := hA cn (by simpa using hc)
        exact ⟨a, cn, ds, l1, .ty t, b cn, rfl, fun w r => r, rp1.rt.lh, dt, A1, A2, po3 _ H1 l1 rp1 (Gr.refl _) (.bl _)⟩
      · rw [if_neg hc] at ez
        cases ez
    | _ => cases ez
/-- e.f of an exception -/
theorem le_fld {cs : List String} {f : String} {e : Expr} {o : Opd} {pos : Pos} (hA : ∀ cn ∈ cs, ExA X.K cn) (h : LO X c W e o) (hb : attributeBase e (Str.ofString f) X.env (eval e X.env) = eval e X.env := by rfl) : LE X c W (.Attribute e (Str.ofString f) pos) (m1 (dFld cs f) o) := by
  refine ⟨fun pins s σ H Q I hh => ?_⟩
  obtain ⟨l, S, rp, po⟩ := hh
  have h0 : liftO X.K c W o σ H fun v H1 => ∃ l1 S1 d, Rep X.K c l1 S1 σ H1 ∧ Gr l l1 ∧ Rv X.K l1 H1 v d ∧ Po X.K c W l1 σ (Dt X.K) Q (opt (dFld cs f d) S1) := by
    refine ⟨l, S, rp, Po.bind (R := RO X.K σ o) po fun y S1 v H1 l1 _ rp1 g1 q1 po1 => ?_⟩
    obtain ⟨d, rv, po2⟩ := Po.rd rp1 (Gr.refl _) q1 po1
    exact ⟨l1, S1, d, rp1, g1, rv, po2⟩
  refine attr_of hb (thn (h.run pins s σ H _ I h0) fun u s1 ⟨v, H1, I1, r1, l1, S1, d, rp1, g1, rv, po2⟩ => ?_)
  obtain ⟨z, ez, po3⟩ := Po.opt po2
  cases d with
  | exc cn ds =>
    match ds, ez with
    | [], ez => cases ez
    | _ :: _ :: _, ez => cases ez
    | [x], ez =>
      unfold dFld at ez
      dsimp only at ez
      by_cases hc : cs.contains cn = true ∧ fldOf cn = some f
      · rw [if_pos hc] at ez
        cases ez
        obtain ⟨a, rfl, dt⟩ := exc_ref rv
        obtain rfl : u = Value.ref a := r1
        have C := hA cn (by simpa using hc.1)
        have hc := hc.2
        cases dt with
        | @exc1 _ dx _ f' v y hf' h1 h2 dt =>
          rw [hc] at hf'
          cases hf'
          obtain ⟨⟨oe, vs, q1, q2, q3, q4⟩, _⟩ := I1.hok a _ (rp1.rt.lh _ _ h1)
          obtain ⟨mA, hns, hr⟩ := I1.hok dx _ (rp1.rt.lh _ _ h2)
          obtain ⟨od, ho, hl⟩ := lookIn_ns hns
          have hl1 : List.lookup (Str.ofString f) [(Str.ofString f, v)] = some v := by simp [List.lookup]
          obtain ⟨w, hw, rw'⟩ := RelO.some_of (v := v) (o := mA (Str.ofString f)) (by rw [← hl1]; exact hr (Str.ofString f))
          have J : PySem.W.InstAt s1.heap a oe (cAd X.K cn) (some od) := ⟨q1, q2, by unfold PySem.W.notCls; rw [q4], by rw [q3]; exact ho⟩
          exact HandSPX.exc_get I1.kIn J C.ga C.gg C.ex (PySem.W.findObj_own C.hd (C.no f hc) rfl (by rw [hl, hw])) (handed_of rw') ⟨v, H1, I1.tok _, rw', po3 v H1 l1 rp1 (Gr.refl _) dt⟩
      · rw [if_neg hc] at ez
        cases ez
  | _ => cases ez
end
end Lw

set_option Elab.async false
set_option linter.all false
set_option maxRecDepth 100000
set_option maxHeartbeats 4000000
/-! Lw: x in xs, xs[::-1], {}. -/
namespace Lw
open PySem PySem.Spec PyProof.Rows L2

def dInL (t : Bool) (x : D) (ys : List D) : Option Bool := if plain x && plainAll ys && SeqAt.shaped (toP x) && SeqAt.shaped (if t then .tuple (toPs ys) else .list (toPs ys)) then some ((toPs ys).any fun z => PyData.eqv z (toP x)) else none
def dIn : D → D → Option D
  | x, .lst ys => (dInL false x ys).map .bl
  | x, .tup ys => (dInL true x ys).map .bl
  | _, _ => none
def dNin : D → D → Option D
  | x, .lst ys => (dInL false x ys).map fun b => .bl (!b)
  | x, .tup ys => (dInL true x ys).map fun b => .bl (!b)
  | _, _ => none
def rInA (K : PySem.W.Frag) (n : Bool) : R2 := fun x y H Q => ∃ (d : PyData) (ds : List PyData) (t : Bool), Dp K H x d ∧ Dp K H y (if t then .tuple ds else .list ds) ∧ SeqAt.shaped d = true ∧ SeqAt.shaped (if t then .tuple ds else .list ds) = true ∧ Q (.bl (n != ds.any fun z => PyData.eqv z d)) H
section
variable {X : Cx} {c : Pk} {W : WX} {K : PySem.W.Frag}
theorem op_inA (hu : X.A.units + 65 < cLine) : OpR X (compareOp .In) (rInA X.K false) := by
  intro pins s σ H x y v u Q I rx ry h
  obtain ⟨d, ds, t, hd, he, sd, se, q⟩ := h
  rw [Bool.false_bne] at q
  obtain ⟨as, r1⟩ := Dp.reads I d x v hd rx
  obtain ⟨bs, r2⟩ := Dp.reads I _ y u he ry
  cases t with
  | false => exact SeqAt.in_list_reads r2 r1 (SeqAt.canLay_of_shaped se) (SeqAt.canLay_of_shaped sd) (room_in_shaped sd hu) ⟨.bl _, H, I, rfl, q⟩
  | true => exact SeqAt.in_tuple_reads r2 r1 (SeqAt.canLay_of_shaped se) (SeqAt.canLay_of_shaped sd) (room_in_shaped sd hu) ⟨.bl _, H, I, rfl, q⟩
theorem op_ninA (hu : X.A.units + 65 < cLine) : OpR X (compareOp .NotIn) (rInA X.K true) := by
  intro pins s σ H x y v u Q I rx ry h
  obtain ⟨d, ds, t, hd, he, sd, se, q⟩ := h
  rw [Bool.true_bne] at q
  obtain ⟨as, r1⟩ := Dp.reads I d x v hd rx
  obtain ⟨bs, r2⟩ := Dp.reads I _ y u he ry
  cases t with
  | false => exact SeqAt.notIn_list_reads r2 r1 (SeqAt.canLay_of_shaped se) (SeqAt.canLay_of_shaped sd) (room_in_shaped sd hu) ⟨.bl _, H, I, rfl, q⟩
  | true => exact SeqAt.notIn_tuple_reads r2 r1 (SeqAt.canLay_of_shaped se) (SeqAt.canLay_of_shaped sd) (room_in_shaped sd hu) ⟨.bl _, H, I, rfl, q⟩
theorem in_parts {t : Bool} {x : D} {ys : List D} {b : Bool} (e : dInL t x ys = some b) : plain x = true ∧ plainAll ys = true ∧ SeqAt.shaped (toP x) = true ∧ SeqAt.shaped (if t then .tuple (toPs ys) else .list (toPs ys)) = true ∧ b = (toPs ys).any fun z => PyData.eqv z (toP x) := by
  unfold dInL at e
  by_cases h : (plain x && plainAll ys && SeqAt.shaped (toP x) && SeqAt.shaped (if t then .tuple (toPs ys) else .list (toPs ys))) = true
  · rw [if_pos h] at e
    cases e
    obtain ⟨h1, h2, h3, h4⟩ := eq_parts h
    exact ⟨h1, h2, h3, h4, rfl⟩
  · rw [if_neg h] at e
    cases e
theorem sm_in : Sem2 K dIn (rInA K false) := by
  intro l H v w a b d Q x ra rb e g
  cases b with
  | lst ys =>
    have e : Option.map D.bl (dInL false a ys) = some d := e
    cases z : dInL false a ys with
    | none =>
      rw [z] at e
      cases e
    | some r =>
      rw [z] at e
      cases e
      obtain ⟨h1, h2, h3, h4, rfl⟩ := in_parts z
      refine ⟨toP a, toPs ys, false, dp_rv x ra h1, dp_rv x rb (by unfold plain; exact h2), h3, h4, ?_⟩
      rw [Bool.false_bne]
      exact g.1 _ (.bl _)
  | tup ys =>
    have e : Option.map D.bl (dInL true a ys) = some d := e
    cases z : dInL true a ys with
    | none =>
      rw [z] at e
      cases e
    | some r =>
      rw [z] at e
      cases e
      obtain ⟨h1, h2, h3, h4, rfl⟩ := in_parts z
      refine ⟨toP a, toPs ys, true, dp_rv x ra h1, dp_rv x rb (by unfold plain; exact h2), h3, h4, ?_⟩
      rw [Bool.false_bne]
      exact g.1 _ (.bl _)
  | _ => cases e
theorem sm_nin : Sem2 K dNin (rInA K true) := by
  intro l H v w a b d Q x ra rb e g
  cases b with
  | lst ys =>
    have e : Option.map (fun b => D.bl (!b)) (dInL false a ys) = some d := e
    cases z : dInL false a ys with
    | none =>
      rw [z] at e
      cases e
    | some r =>
      rw [z] at e
      cases e
      obtain ⟨h1, h2, h3, h4, rfl⟩ := in_parts z
      refine ⟨toP a, toPs ys, false, dp_rv x ra h1, dp_rv x rb (by unfold plain; exact h2), h3, h4, ?_⟩
      rw [Bool.true_bne]
      exact g.1 _ (.bl _)
  | tup ys =>
    have e : Option.map (fun b => D.bl (!b)) (dInL true a ys) = some d := e
    cases z : dInL true a ys with
    | none =>
      rw [z] at e
      cases e
    | some r =>
      rw [z] at e
      cases e
      obtain ⟨h1, h2, h3, h4, rfl⟩ := in_parts z
      refine ⟨toP a, toPs ys, true, dp_rv x ra h1, dp_rv x rb (by unfold plain; exact h2), h3, h4, ?_⟩
      rw [Bool.true_bne]
      exact g.1 _ (.bl _)
  | _ => cases e
/-- {} -/
theorem le_dct0 {pos : Pos} : LE X c W (.Dict [] [] pos) (ret (.dct [])) := PE.imp pe_dnewK fun σ H Q ⟨l, S, rp, po⟩ => fun p hp => by
  obtain ⟨rp1, g1⟩ := rp.lay (o := .dK []) hp (fun _ z => nomatch z)
  exact po _ _ _ rp1 g1 (.dct (ks := []) (ds := []) upd_same rfl .nil .nil)
/-- xs[::-1] of a list -/
theorem le_back {e : Expr} {o : Opd} {k : Nat} {p1 p2 p3 pos : Pos} (he : LO X c W e o) : LE X c W (.Subscript e (.Slice none none (some (.UnaryOp .USub (.Constant (.int 1) k p1) p2)) p3) pos) (m1 (fun d => match d with | .lst xs => some (.lst xs.reverse) | _ => none) o) :=
  PE.imp (pe_revL he) fun σ H Q ⟨l, S, rp, po⟩ => by
    refine ⟨l, S, rp, Po.bind (R := RO X.K σ o) po fun y S1 v H1 l1 _ rp1 g1 q1 po1 => ?_⟩
    obtain ⟨d, rv, po2⟩ := Po.rd rp1 (Gr.refl _) q1 po1
    obtain ⟨z, ez, po3⟩ := Po.opt po2
    cases d with
    | lst ds =>
      cases ez
      obtain ⟨a, vs, rfl, ha, hd⟩ := rv.lst rp1.rt.lh
      refine ⟨a, vs, rfl, SqL.of ha, fun p hp => ?_⟩
      obtain ⟨rp2, g2⟩ := rp1.lay (o := .lst vs.reverse) hp (fun _ z => nomatch z)
      exact po3 _ _ _ rp2 g2 (.lst upd_same (hd.reverse.grow g2))
    | _ => cases ez
end
end Lw

set_option Elab.async false
set_option linter.all false
set_option maxRecDepth 100000
set_option maxHeartbeats 4000000
/-! Lw: the drawing state: read and written. -/
namespace Lw
open PySem PySem.Spec PyProof.Rows L2

def DSt.go (st : DSt) (z : Nat) : DSt := { st with spot := z }
theorem DSt.putOk (st : DSt) (n : Nat) (x : Int) (h : 0 ≤ x) : ∀ y ∈ st.great.set n x, 0 ≤ y := fun y hy => by
  rcases List.mem_or_eq_of_mem_set hy with h1 | h1
  · exact st.hg y h1
  · rw [h1]
    exact h
def DSt.put (st : DSt) (n : Nat) (x : Int) (h : 0 ≤ x) : DSt := ⟨st.cells, st.great.set n x, st.spot, st.hc, st.putOk n x h, st.hp⟩
theorem lst_ne_code {xs : List V} {cc : Addr} {q : Str} : HO.lst xs ≠ LamX.CodeO cc q := fun z => by
  unfold LamX.CodeO at z
  cases z
theorem dk_ne_code {xs : List (Key × V)} {cc : Addr} {q : Str} : HO.dK xs ≠ LamX.CodeO cc q := fun z => by
  unfold LamX.CodeO at z
  cases z
def dmAt (i : Nat) (s : S) : Option DSt := match s.σ[i]? with
  | some (some (.d .dm)) => s.ds
  | _ => none
def mSpot (i : Nat) : M D := fun s => match dmAt i s with
  | some st => .ok (.int (st.spot : Int)) s
  | none => .no
def sSpot (i : Nat) (m : M D) : M Fl := bnd m fun d s => match d, dmAt i s with
  | .int z, some st => if 0 ≤ z then .ok .nx { s with ds := some (st.go z.toNat) } else .no
  | _, _ => .no
def tGreat (i : Nat) : M Bool := fun s => match dmAt i s with
  | some st => .ok (!st.great.isEmpty) s
  | none => .no
def sLot (k i j : Nat) : M Fl := fun s => match dmAt i s with
  | some _ => if j < s.σ.length then .ok .nx { s with σ := s.σ.set j (some (.f k)) } else .no
  | none => .no
def lotAt (j : Nat) (s : S) : Option (List Int) := match s.σ[j]?, s.ds with
  | some (some (.f 1)), some st => some st.cells
  | some (some (.f 2)), some st => some st.great
  | _, _ => none
def mLen (j : Nat) : M D := fun s => match lotAt j s with
  | some xs => .ok (.int (xs.length : Int)) s
  | none => .no
def mLotIx (j : Nat) (m : M D) : M D := fun s => match s.σ[j]? with
  | some (some (.f _)) => bnd m (fun d s' => match d, lotAt j s' with
    | .int z, some xs => (match L2.atI xs z with
      | some v => .ok (.int v) s'
      | none => .no)
    | _, _ => .no) s
  | _ => .no
def sLotSet (j : Nat) (mi mv : M D) : M Fl := bnd mv fun v s => match s.σ[j]? with
  | some (some (.f 2)) => bnd mi (fun d s' => match v, d, s'.σ[j]?, s'.ds with
    | .int x, .int z, some (some (.f 2)), some st => (match L2.ixN st.great.length z with
      | some n => if h : 0 ≤ x then .ok .nx { s' with ds := some (st.put n x h) } else .no
      | none => .no)
    | _, _, _, _ => .no) s
  | _ => .no
section
variable {K : PySem.W.Frag} {c : Pk} {l : Lh} {S : Lw.S} {σ : L2.St} {H : Hp}
/-- the drawing state is written -/
theorem Rep.draws (r : Rep K c l S σ H) {a b g : Addr} (hw : l.wm = some (a, b, g)) {H' : Hp} {ds' : Option DSt} (same : ∀ x, x ≠ a → x ≠ g → H' x = H x) (mr : MR l.wm H' ds') (he : S.ds.map (·.hp) = ds'.map (·.hp)) : Rep K c l { S with ds := ds' } σ H' := by
  have ma : a ∈ wmL l.wm := by rw [hw]; simp [wmL]
  have mg : g ∈ wmL l.wm := by rw [hw]; simp [wmL]
  have out : ∀ {x : Addr}, x ∉ wmL l.wm → H' x = H x := fun {x} h => same x (fun e => h (e ▸ ma)) (fun e => h (e ▸ mg))
  have out0 : ∀ {x : Addr} {o : HO}, c.H0 x = some o → x ∉ mtL c.l0 → x ∉ wmL l.wm := fun {x o} e n z => r.rt.wm_in e n (List.mem_append_left _ z)
  have olds : ∀ {x : Addr}, x ∈ wmL l.wm → ∃ o, H x = some o ∧ (∀ ps, o ≠ .tbl ps) ∧ (∀ cc q, o ≠ LamX.CodeO cc q) ∧ (∀ ob, o ≠ .frz ob (.own sysModules)) := fun {x} h => by
    have m := r.rt.mr
    rw [hw] at h m
    simp only [wmL, List.mem_cons, List.not_mem_nil, or_false] at h
    match S.ds, m with
    | some st, ⟨h1, h2, h3, _⟩ =>
      rcases h with rfl | rfl | rfl
      · exact ⟨_, h1, fun _ z => (nomatch z), fun _ _ => dk_ne_code, fun _ z => (nomatch z)⟩
      · exact ⟨_, h2, fun _ z => (nomatch z), fun _ _ => lst_ne_code, fun _ z => (nomatch z)⟩
      · exact ⟨_, h3, fun _ z => (nomatch z), fun _ _ => lst_ne_code, fun _ z => (nomatch z)⟩
  have cellsOut : ∀ x ∈ l.cl, x ∉ wmL l.wm := fun x hx => by
    have c0 := r.rt.ce
    match S.ds, c0 with
    | none, c0 =>
      have c0 : l.cl = [] := c0
      rw [c0] at hx
      exact absurd hx List.not_mem_nil
    | some st, c0 => exact c0.2.2.1 x hx
  refine ⟨⟨r.rt.gr, fun x o e => ?_, r.rt.nw, r.rt.ml, r.rt.nt, fun x o e n t => ?_, fun x e => ?_, tabs_step r.rt.tb fun x o h1 h2 => ?_, r.rt.wk, r.rt.ck, mr, (r.rt.ce.step (H' := H') (Gr.refl _) rfl rfl fun x hx o e => by
    rw [out (cellsOut x hx)]
    exact e).ds he, ?_⟩, r.ln, r.sd, fun i xs e => ?_, r.di, r.sf⟩
  · rw [out (fun h => by rw [r.rt.ml x (List.mem_append_left _ h)] at e; cases e)]
    exact r.rt.lh x o e
  · rw [out (out0 e n)]
    exact r.rt.fr x o e n t
  · by_cases h : x ∈ wmL l.wm
    · obtain ⟨u, q, _⟩ := mr.mem x h
      rw [q] at e
      cases e
    · rw [out h] at e
      exact r.rt.fd x e
  · rw [out (fun h => ?_)]
    · exact h1
    · obtain ⟨u, q, n1, n2, _⟩ := olds h
      rw [h1] at q
      cases q
      rcases h2 with ⟨ps, z⟩ | ⟨cc, q, z⟩
      · exact n1 ps z
      · exact n2 cc q z
  · obtain ⟨ob, e⟩ := r.rt.sm
    refine ⟨ob, ?_⟩
    rw [out (fun h => ?_)]
    · exact e
    · obtain ⟨u, q, _, _, n3⟩ := olds h
      rw [e] at q
      cases q
      exact n3 ob rfl
  · obtain ⟨p, vs, h1, h2, h3, h4, h5, h6⟩ := r.so i xs e
    exact ⟨p, vs, h1, by rw [out (fun z => h6 (List.mem_append_left _ z))]; exact h2, h3, h4, h5, h6⟩
/-- what is known of the drawing state -/
theorem dm_at {i : Nat} {st : DSt} (r : Rep K c l S σ H) (e : dmAt i S = some st) : ∃ a b g, l.wm = some (a, b, g) ∧ S.ds = some st ∧ σ[i]? = some (some (.ref a)) ∧
    H a = some (.dK [(.inr (Str.ofString "cells"), .ref b), (.inr (Str.ofString "great"), .ref g), (.inr (Str.ofString "spot"), .int (st.spot : Int))]) ∧ H b = some (.lst (st.cells.map V.int)) ∧ H g = some (.lst (st.great.map V.int)) ∧ b ≠ g := by
  unfold dmAt at e
  split at e
  · rename_i h
    obtain ⟨v, h1, dt⟩ := r.sd i _ h
    cases dt with
    | @dm a b g hw =>
      have m := r.rt.mr
      rw [hw, e] at m
      exact ⟨a, b, g, hw, e, h1, m.1, m.2.1, m.2.2.1, m.2.2.2⟩
  · cases e
theorem lot_at {j : Nat} {xs : List Int} (r : Rep K c l S σ H) (e : lotAt j S = some xs) : ∃ p, σ[j]? = some (some (.ref p)) ∧ H p = some (.lst (xs.map V.int)) := by
  unfold lotAt at e
  split at e
  · rename_i st h1 h2
    cases e
    obtain ⟨v, ⟨a, b, g, hw, rfl⟩, h3⟩ := r.sf j 1 h1
    have m := r.rt.mr
    rw [hw, h2] at m
    exact ⟨b, h3, m.2.1⟩
  · rename_i st h1 h2
    cases e
    obtain ⟨v, ⟨a, b, g, hw, rfl⟩, h3⟩ := r.sf j 2 h1
    have m := r.rt.mr
    rw [hw, h2] at m
    exact ⟨g, h3, m.2.2.1⟩
  · cases e
theorem Rep.setF (r : Rep K c l S σ H) {j k : Nat} {v : V} (h : FxV c.fx l.wm k v) : Rep K c l { S with σ := S.σ.set j (some (.f k)) } (σ.set j (some v)) H := by
  have at_ : ∀ {i : Nat} {x : Sl}, (S.σ.set j (some (.f k)))[i]? = some (some x) → (i = j ∧ i < S.σ.length ∧ x = .f k) ∨ (j ≠ i ∧ S.σ[i]? = some (some x)) := fun {i x} e => by
    by_cases hj : j = i
    · subst hj
      have hl : j < S.σ.length := by
        have := (List.getElem?_eq_some_iff.mp e).1
        simpa using this
      rw [List.getElem?_set_self hl] at e
      injection e with e
      injection e with e
      exact .inl ⟨rfl, hl, e.symm⟩
    · rw [List.getElem?_set_ne hj] at e
      exact .inr ⟨hj, e⟩
  refine ⟨r.rt, by simpa using r.ln, fun i x e => ?_, fun i xs e => ?_, fun i i' xs ys a n e1 e2 e3 e4 => ?_, fun i k' e => ?_⟩
  · rcases at_ e with ⟨_, _, z⟩ | ⟨hj, e⟩
    · cases z
    · rw [List.getElem?_set_ne hj]
      exact r.sd i x e
  · rcases at_ e with ⟨_, _, z⟩ | ⟨hj, e⟩
    · cases z
    · rw [List.getElem?_set_ne hj]
      exact r.so i xs e
  · rcases at_ e1 with ⟨_, _, z⟩ | ⟨hj, e1⟩
    · cases z
    · rcases at_ e2 with ⟨_, _, z⟩ | ⟨hj', e2⟩
      · cases z
      · rw [List.getElem?_set_ne hj] at e3
        rw [List.getElem?_set_ne hj'] at e4
        exact r.di i i' xs ys a n e1 e2 e3 e4
  · rcases at_ e with ⟨rfl, hl, z⟩ | ⟨hj, e⟩
    · cases z
      exact ⟨v, h, List.getElem?_set_self (by rw [r.ln]; exact hl)⟩
    · rw [List.getElem?_set_ne hj]
      exact r.sf i k' e
end
theorem kne1 : ¬ ((.inr (Str.ofString "cells") : Key) = .inr (Str.ofString "spot")) := by decide
theorem kne2 : ¬ ((.inr (Str.ofString "great") : Key) = .inr (Str.ofString "spot")) := by decide
theorem kne3 : ¬ ((.inr (Str.ofString "cells") : Key) = .inr (Str.ofString "great")) := by decide
theorem val_spot {b g : V} {z : Int} : valV [((.inr (Str.ofString "cells") : Key), b), (.inr (Str.ofString "great"), g), (.inr (Str.ofString "spot"), .int z)] (.inr (Str.ofString "spot")) = some (.int z) := by
  rw [valV_neg kne1, valV_neg kne2, valV_pos rfl]
theorem val_great {b g : V} {z : Int} : valV [((.inr (Str.ofString "cells") : Key), b), (.inr (Str.ofString "great"), g), (.inr (Str.ofString "spot"), .int z)] (.inr (Str.ofString "great")) = some g := by
  rw [valV_neg kne3, valV_pos rfl]
theorem val_cells {b g : V} {z : Int} : valV [((.inr (Str.ofString "cells") : Key), b), (.inr (Str.ofString "great"), g), (.inr (Str.ofString "spot"), .int z)] (.inr (Str.ofString "cells")) = some b := valV_pos rfl
theorem put_spot {b g : V} {z y : Int} : putK [((.inr (Str.ofString "cells") : Key), b), (.inr (Str.ofString "great"), g), (.inr (Str.ofString "spot"), .int z)] (.inr (Str.ofString "spot")) (.int y) =
    [((.inr (Str.ofString "cells") : Key), b), (.inr (Str.ofString "great"), g), (.inr (Str.ofString "spot"), .int y)] := by
  unfold putK
  have h1 : ¬ ((.inr (Str.ofString "cells") : Key) = .inr (Str.ofString "spot")) := by decide
  have h2 : ¬ ((.inr (Str.ofString "great") : Key) = .inr (Str.ofString "spot")) := by decide
  simp [h1, h2]
section
variable {X : Cx} {c : Pk} {W : WX}
/-- m['spot'] -/
theorem le_spot (i : Nat) {x : Str} {j : Nat} {p p' pos : Pos} (hu : X.A.units + 64 < cLine) (hN : X.N[i]? = some x := by rfl) (hv : Vis X.env.scope x := by first | exact Or.inl rfl | exact Or.inr (Or.inl rfl) | exact Or.inr (Or.inr rfl)) (hd : (x == ("__debug__" : Str)) = false := by decide)
    (hcd : (x == ("__classdict__" : Str)) = false := by decide) : LE X c W (.Subscript (.Name x p) (.Constant (.str "spot") j p') pos) (mSpot i) :=
  PE.imp (pe_dget (by omega) (pv i hN hv hd hcd) pe_str (fun _ _ => rfl)) fun σ H Q ⟨l, S, rp, po⟩ => by
    unfold mSpot at po
    split at po
    · rename_i st e
      obtain ⟨a, b, g, hw, hs, h1, h2, h3, h4, _⟩ := dm_at rp e
      exact ⟨.ref a, h1, a, .int st.spot, rfl, .inl ⟨_, .inr (Str.ofString "spot"), .inl h2, rfl, val_spot.symm⟩, po _ H l rp (Gr.refl _) (.int _)⟩
    · exact po.elim
/-- lot = m['great'], m['cells'] -/
theorem ls_lot (k i j : Nat) {x y : Str} {key : String} {n : Nat} {p p' p'' q pos : Pos} (hk : (k = 1 ∧ key = "cells") ∨ (k = 2 ∧ key = "great")) (hu : X.A.units + 64 < cLine) (hNd : X.N.Nodup) (hN : X.N[i]? = some x) (hv : Vis X.env.scope x) (hj : X.N[j]? = some y) (hl : X.env.kindOf y = some .local)
    (hd : (x == ("__debug__" : Str)) = false := by decide) (hcd : (x == ("__classdict__" : Str)) = false := by decide) : LS X c W (.Assign [.Name y q] (.Subscript (.Name x p) (.Constant (.str (Str.ofString key)) n p') p'') pos) (sLot k i j) :=
  PS.imp (ps_set (i := j) hNd hj (.inl hl) (pe_dget (by omega) (pv i hN hv hd hcd) pe_str (fun _ _ => rfl)) rfl (.inr hl)) fun D σ H ⟨l, S, rp, po⟩ => by
    unfold sLot at po
    split at po
    · rename_i st e
      obtain ⟨a, b, g, hw, hs, h1, h2, h3, h4, _⟩ := dm_at rp e
      split at po
      · rcases hk with ⟨rfl, rfl⟩ | ⟨rfl, rfl⟩
        · exact ⟨.ref a, h1, a, .ref b, rfl, .inl ⟨_, .inr (Str.ofString "cells"), .inl h2, rfl, val_cells.symm⟩, po _ H l (rp.setF ⟨a, b, g, hw, rfl⟩) (Gr.refl _)⟩
        · exact ⟨.ref a, h1, a, .ref g, rfl, .inl ⟨_, .inr (Str.ofString "great"), .inl h2, rfl, val_great.symm⟩, po _ H l (rp.setF ⟨a, b, g, hw, rfl⟩) (Gr.refl _)⟩
      · exact po.elim
    · exact po.elim
/-- m['spot'] = e -/
theorem ls_spot (i : Nat) {x : Str} {e : Expr} {m : M D} {n : Nat} {p p' q pos : Pos} (hu : X.A.units + 64 < cLine) (h : LE X c W e m) (hN : X.N[i]? = some x) (hv : Vis X.env.scope x) (hs : swapsWith e (some (.Subscript (.Name x p) (.Constant (.str "spot") n p') q)) pos.line X.env = pure false := by rfl)
    (hd : (x == ("__debug__" : Str)) = false := by decide) (hcd : (x == ("__classdict__" : Str)) = false := by decide) : LS X c W (.Assign [.Subscript (.Name x p) (.Constant (.str "spot") n p') q] e pos) (sSpot i m) :=
  PS.imp (ps_dput (by omega) (pv i hN hv hd hcd) pe_str h hs) fun D σ H ⟨l, S, rp, po⟩ => by
    refine ⟨l, S, rp, Po.bindS po fun d S1 v H1 l1 _ rp1 g1 q1 po1 => ?_⟩
    cases d with
    | int z =>
      cases q1
      split at po1
      · rename_i z' st hz e
        cases hz
        obtain ⟨a, b, g, hw, hs, h1, h2, h3, h4, h5⟩ := dm_at rp1 e
        split at po1
        · rename_i h0
          refine ⟨.ref a, h1, a, _, rfl, .inl ⟨_, .inr (Str.ofString "spot"), h2, rfl, by rw [sizeLine_eq]; exact (by decide : 3 < 16777216), rfl⟩, ?_⟩
          rw [put_spot]
          have ab : b ≠ a := fun z => by rw [z, h2] at h3; cases h3
          have ag : g ≠ a := fun z => by rw [z, h2] at h4; cases h4
          refine po1 σ _ l1 (rp1.draws hw (fun x n1 _ => upd_ne n1) ?_ (by rw [hs]; rfl)) (Gr.refl _)
          rw [hw]
          refine ⟨?_, by rw [upd_ne ab]; exact h3, by rw [upd_ne ag]; exact h4, h5⟩
          rw [upd_same]
          show some (HO.dK [_, _, (_, .int z)]) = some (HO.dK [_, _, (_, .int ((z.toNat : Nat) : Int))])
          rw [Int.toNat_of_nonneg h0]
        · exact po1.elim
      · exact po1.elim
    | _ => exact po1.elim
theorem lay_ints : ∀ xs : List Int, PyData.canLayAll0 (xs.map PyData.int) = true ∧ PyData.depthAll (xs.map PyData.int) = 0
  | [] => ⟨by simp [PyData.canLayAll0], by simp [PyData.depthAll]⟩
  | x :: xs => by
    obtain ⟨h1, h2⟩ := lay_ints xs
    exact ⟨by simp [PyData.canLayAll0, PyData.canLay0, h1], by simp [PyData.depthAll, PyData.depth, h2]⟩
theorem shaped_ints (xs : List Int) : SeqAt.shaped (.list (xs.map PyData.int)) = true := by
  obtain ⟨h1, h2⟩ := lay_ints xs
  simp [SeqAt.shaped, PyData.canLay0, PyData.depth, h1, h2]
theorem dp_ints {K : PySem.W.Frag} {H : Hp} : ∀ xs : List Int, DpAll K H (xs.map V.int) (xs.map PyData.int)
  | [] => .nil
  | x :: xs => .cons (.int x) (dp_ints xs)
/-- m['great'] != [] -/
theorem lt_great (i : Nat) {x : Str} {n : Nat} {p p' q q' pos : Pos} (hu : X.A.units + 64 < cLine) (hN : X.N[i]? = some x) (hv : Vis X.env.scope x) (hd : (x == ("__debug__" : Str)) = false := by decide) (hcd : (x == ("__classdict__" : Str)) = false := by decide) :
    LT X c W (.Compare (.Subscript (.Name x p) (.Constant (.str "great") n p') q) [.NotEq] [.List [] q'] pos) (tGreat i) :=
  PT.imp (pt_cmpR (op_neD hu) (pe_dget (by omega) (pv i hN hv hd hcd) pe_str (fun _ _ => rfl)) (pe_lst pa_nil) (nomark _)) fun σ H Q ⟨l, S, rp, po⟩ => by
    unfold tGreat at po
    split at po
    · rename_i st e
      obtain ⟨a, b, g, hw, hs, h1, h2, h3, h4, _⟩ := dm_at rp e
      refine ⟨.ref a, h1, a, .ref g, rfl, .inl ⟨_, .inr (Str.ofString "great"), .inl h2, rfl, val_great.symm⟩, Nat.zero_le _, fun pp hp => ?_⟩
      obtain ⟨rp1, g1⟩ := rp.lay (o := .lst []) hp (fun _ z => nomatch z)
      refine ⟨.list (st.great.map PyData.int), .list [], .lst (SqL.of (by rw [upd_ne (ne_of_none h4 hp)]; exact h4)) (dp_ints _), .lst (SqL.of upd_same) .nil, shaped_ints _, shaped_ints [], ?_⟩
      have e1 : (!PyData.eqv (.list (st.great.map PyData.int)) (.list [])) = !st.great.isEmpty := by
        cases st.great <;> simp [PyData.eqv, PyData.eqvAll]
      rw [e1]
      exact ⟨_, rfl, po _ _ _ rp1 g1 rfl⟩
    · exact po.elim
/-- len(lot) -/
theorem le_lotLen (j : Nat) {y : Str} {p q pos : Pos} (hm : X.mg "len" = none) (hN : X.N[j]? = some y) (hv : Vis X.env.scope y) (hg : Gl X "len" := by rfl) (hd : (y == ("__debug__" : Str)) = false := by decide) (hcd : (y == ("__classdict__" : Str)) = false := by decide)
    (hs : starEach [.Name y q] X.env = (false, eval (.Name y q) X.env) :: starEach [] X.env := by rfl) (hpl : (backTo pos (starEach [] X.env)).any (·.1) = false := by rfl) : LE X c W (.Call (.Name "len" p) [.Name y q] [] pos) (mLen j) :=
  PE.imp (pe_callB call_len_seq hg hm (by decide +kernel) (pa_cons (pv j hN hv hd hcd) pa_nil hs) (he := hs) (hpl := hpl)) fun σ H Q ⟨l, S, rp, po⟩ => by
    unfold mLen at po
    split at po
    · rename_i xs e
      obtain ⟨pp, h1, h2⟩ := lot_at rp e
      refine ⟨.ref pp, h1, pp, _, rfl, .inl (SqL.of h2), ?_⟩
      rw [List.length_map]
      exact po _ H l rp (Gr.refl _) (.int _)
    · exact po.elim
/-- lot[e] -/
theorem le_lotIx (j : Nat) {y : Str} {b : Expr} {m : M D} {p pos : Pos} (h : LE X c W b m) (hN : X.N[j]? = some y) (hv : Vis X.env.scope y) (hs : PlainIx b := by exact fun _ _ => rfl) (hd : (y == ("__debug__" : Str)) = false := by decide) (hcd : (y == ("__classdict__" : Str)) = false := by decide) :
    LE X c W (.Subscript (.Name y p) b pos) (mLotIx j m) :=
  PE.imp (pe_ix ix_list (pv j hN hv hd hcd) h hs) fun σ H Q ⟨l, S, rp, po⟩ => by
    unfold mLotIx at po
    split at po
    · rename_i k e0
      obtain ⟨v0, f0, h0⟩ := rp.sf j k e0
      refine ⟨v0, h0, l, S, rp, Po.bind po fun d S1 v H1 l1 _ rp1 g1 q1 po1 => ?_⟩
      cases d with
      | int z =>
        cases q1
        dsimp only at po1
        split at po1
        · rename_i z' xs hz e
          cases hz
          obtain ⟨pp, h1, h2⟩ := lot_at rp1 e
          rw [h0] at h1
          cases h1
          split at po1
          · rename_i w hw
            refine ⟨pp, _, z, .int w, rfl, rfl, SqL.of h2, ?_, po1 _ H1 l1 rp1 (Gr.refl _) (.int _)⟩
            unfold L2.atI at hw ⊢
            rw [List.length_map]
            cases en : ixN xs.length z with
            | none =>
              rw [en] at hw
              cases hw
            | some n =>
              rw [en] at hw
              have hw : xs[n]? = some w := hw
              show (xs.map V.int)[n]? = some (.int w)
              rw [List.getElem?_map, hw]
              rfl
          · exact po1.elim
        · exact po1.elim
      | _ => exact po1.elim
    · exact po.elim
/-- lot[e] = v, of the great ones -/
theorem ls_lotSet (j : Nat) {y : Str} {b e : Expr} {mi mv : M D} {p q pos : Pos} (hi : LE X c W b mi) (he : LE X c W e mv) (hN : X.N[j]? = some y) (hv : Vis X.env.scope y) (hd : (y == ("__debug__" : Str)) = false := by decide) (hcd : (y == ("__classdict__" : Str)) = false := by decide)
    (ha : ∀ v, assign (.Subscript (.Name y p) b q) X.env v = (do
      let ov ← holding [v] (eval (.Name y p) X.env)
      let iv ← holding [v, ov] (eval b X.env)
      standAt q
      holding [v, ov, iv] (setItem ov iv v)
      release [v, ov, iv] []) := by intro _; rfl)
    (hs : swapsWithSole [.Subscript (.Name y p) b q] e pos.line X.env = pure false := by rfl) (hw : swappedStores [.Subscript (.Name y p) b q] e X.env = pure none := by rfl) (h1 : (assignEach [.Subscript (.Name y p) b q] X.env).map (·.2) = [assign (.Subscript (.Name y p) b q) X.env] := by rfl) :
    LS X c W (.Assign [.Subscript (.Name y p) b q] e pos) (sLotSet j mi mv) :=
  PS.imp (ps_asg he (pg_sub (pv j hN hv hd hcd) hi set_list ha) hs hw h1) fun D σ H ⟨l, S, rp, po⟩ => by
    refine ⟨l, S, rp, Po.bindS po fun v S1 u H1 l1 _ rp1 g1 q1 po1 => ?_⟩
    split at po1
    · rename_i e0
      obtain ⟨v0, f0, h0⟩ := rp1.sf j 2 e0
      refine ⟨v0, h0, l1, S1, rp1, Po.bindS po1 fun d S2 w H2 l2 _ rp2 g2 q2 po2 => ?_⟩
      split at po2
      · rename_i x z st e1 e2 _ _
        cases q1
        cases q2
        obtain ⟨v1, ⟨a, b', g, hwm, rfl⟩, h1⟩ := rp2.sf j 2 e1
        rw [h0] at h1
        cases h1
        have m := rp2.rt.mr
        rw [hwm, e2] at m
        obtain ⟨m1, m2, m3, m4⟩ := m
        split at po2
        · rename_i n hn
          split at po2
          · rename_i hx
            refine ⟨g, _, z, n, rfl, rfl, m3, by rw [List.length_map]; exact hn, ?_⟩
            have ga : a ≠ g := fun e => by rw [e, m3] at m1; cases m1
            refine po2 σ _ l2 (rp2.draws hwm (fun x _ n2 => upd_ne n2) ?_ (by rw [e2]; rfl)) (Gr.refl _)
            rw [hwm]
            refine ⟨by rw [upd_ne ga]; exact m1, by rw [upd_ne m4]; exact m2, ?_, m4⟩
            rw [upd_same]
            show some (HO.lst ((List.map V.int st.great).set n (V.int x))) = some (HO.lst (List.map V.int (st.great.set n x)))
            rw [List.map_set]
          · exact po2.elim
        · exact po2.elim
      · exact po2.elim
    · exact po1.elim
end
end Lw

set_option Elab.async false
set_option linter.all false
set_option maxRecDepth 100000
set_option maxHeartbeats 4000000
/-! Lw: list(range(..)), tuple(range(..)), list(xs) as a list of one's own. -/
namespace Lw
open PySem PySem.Spec PyProof.Rows L2

theorem rg_ok {a b : Int} (h : rgOk a b = true) : RgOk a b := by
  unfold rgOk line at h
  simp only [Bool.and_eq_true, decide_eq_true_eq] at h
  obtain ⟨⟨h1, h2⟩, h5⟩ := h
  exact ⟨by omega, by omega, by omega, by omega, h5⟩
theorem rg_dt {K : PySem.W.Frag} {l : Lh} (a b : Int) : DtAll K l (rgV a b) (rg a b) := by
  unfold rgV rg
  have key : ∀ ns : List Nat, DtAll K l (ns.map fun i => V.int (a + (i : Nat))) (ns.map fun i => D.int (a + (i : Nat))) := fun ns => by
    induction ns with
    | nil => exact .nil
    | cons n ns ih => exact .cons (.int _) ih
  exact key _
def seqL : D → Option (List D)
  | .lst xs => some xs
  | .tup xs => some xs
  | _ => none
def mListF (o : Opd) : M (List D) := bnd o.ev fun x => bnd (o.rd x) fun d => opt (seqL d)
section
variable {X : Cx} {c : Pk} {W : WX}
/-- what a range's ends are -/
abbrev LR (X : Cx) (c : Pk) (W : WX) (e : Expr) (m : M (List D)) : Prop := PRg X e fun σ H Q => ∃ l S, Rep X.K c l S σ H ∧ match m S with
  | .ok xs S' => ∀ a b H' l', Rep X.K c l' S' σ H' → Gr l l' → xs = rg a b → rgOk a b = true → Q a b H'
  | .er x S' => ∀ cls dd H' l', Rep X.K c l' S' σ H' → Gr l l' → Fly X.K l' cls dd x → W cls dd σ H'
  | .no => False
theorem lr_1 {a : Expr} {m : M D} {p pos : Pos} (hm : X.mg "range" = none) (ha : LE X c W a m) (hg : Gl X "range" := by rfl) (na : starEach [a] X.env = (false, eval a X.env) :: starEach [] X.env := by rfl) : LR X c W (.Call (.Name "range" p) [a] [] pos) (mRg1 m) := by
  intro pins s σ H Q I ⟨l, S, rp, po⟩
  refine prg_1 hg hm ha na pins s σ H Q I ⟨l, S, rp, ?_⟩
  unfold mRg1 at po
  cases e : m S with
  | no =>
    rw [bnd_no e] at po
    exact po
  | er x S1 =>
    rw [bnd_er e] at po
    exact po
  | ok d S1 =>
    rw [bnd_ok e] at po
    intro v H1 l1 rp1 g1 dt
    cases d with
    | int n =>
      cases dt
      by_cases h : rgOk 0 n = true
      · have e2 : iRg1 (.int n) = some (rg 0 n) := if_pos h
        rw [e2] at po
        exact ⟨n, rfl, po 0 n H1 l1 rp1 g1 rfl h⟩
      · have e2 : iRg1 (.int n) = none := if_neg h
        rw [e2] at po
        exact po.elim
    | _ => exact po.elim
theorem lr_2 {a b : Expr} {m n : M D} {p pos : Pos} (hm : X.mg "range" = none) (ha : LE X c W a m) (hb : LE X c W b n) (hg : Gl X "range" := by rfl) (na : starEach [a, b] X.env = (false, eval a X.env) :: starEach [b] X.env := by rfl) (nb : starEach [b] X.env = (false, eval b X.env) :: starEach [] X.env := by rfl)
    (hp : (backTo pos (starEach [b] X.env)).any (·.1) = false := by rfl) : LR X c W (.Call (.Name "range" p) [a, b] [] pos) (mRg2 m n) := by
  intro pins s σ H Q I ⟨l, S, rp, po⟩
  refine prg_2 hg hm ha hb na nb hp pins s σ H Q I ⟨l, S, rp, ?_⟩
  unfold mRg2 at po
  cases e : m S with
  | no =>
    rw [bnd_no e] at po
    exact po
  | er x S1 =>
    rw [bnd_er e] at po
    exact po
  | ok d S1 =>
    rw [bnd_ok e] at po
    intro v H1 l1 rp1 g1 dt
    refine ⟨l1, S1, rp1, ?_⟩
    cases e' : n S1 with
    | no =>
      rw [bnd_no e'] at po
      exact po
    | er x S2 =>
      rw [bnd_er e'] at po
      exact fun cls dd H' l' rp' g f => po cls dd H' l' rp' (g1.trans g) f
    | ok d' S2 =>
      rw [bnd_ok e'] at po
      intro v' H2 l2 rp2 g2 dt'
      cases d with
      | int i =>
        cases d' with
        | int j =>
          cases dt
          cases dt'
          by_cases h : rgOk i j = true
          · have e2 : iRg2 (.int i) (.int j) = some (rg i j) := if_pos h
            rw [e2] at po
            exact ⟨i, j, rfl, rfl, po i j H2 l2 rp2 (g1.trans g2) rfl h⟩
          · have e2 : iRg2 (.int i) (.int j) = none := if_neg h
            rw [e2] at po
            exact po.elim
        | _ => exact po.elim
      | _ => exact po.elim
theorem lf_listRg {e : Expr} {m : M (List D)} {p pos : Pos} (hc : X.calm = true) (hm : X.mg "list" = none) (he : LR X c W e m) (hg : Gl X "list" := by rfl) (na : starEach [e] X.env = (false, eval e X.env) :: starEach [] X.env := by rfl) : LF X c W (.Call (.Name "list" p) [e] [] pos) m :=
  PE.imp (pe_listRg hc hg hm he na) fun σ H Q ⟨l, S, rp, po⟩ => by
    refine ⟨l, S, rp, ?_⟩
    cases e : m S with
    | no =>
      rw [e] at po
      exact po
    | er x S1 =>
      rw [e] at po
      exact po
    | ok ds S1 =>
      rw [e] at po
      intro a b H1 l1 rp1 g1 ex ok
      refine ⟨rg_ok ok, fun q hq => ?_⟩
      have n := rp1.new (vs := rgV a b) hq
      subst ex
      exact po q _ _ l1 n.1 g1 upd_same n.2 (rg_dt a b)
def tTupRZ (te : L2.St → Hp → (Int → Int → Hp → Prop) → Prop) : TE := fun σ H Q => te σ H fun a b H1 => RgOk a b ∧ ∀ q ob, H1 q = none → ob.dict = none → Q (.ref q) (upd H1 q (.frz ob (.tup (rgV a b))))
theorem pe_tupRZ {e : Expr} {te : L2.St → Hp → (Int → Int → Hp → Prop) → Prop} {p pos : Pos} (hc : X.calm = true) (hg : Gl X "tuple") (hm : X.mg "tuple" = none) (he : PRg X e te) (na : starEach [e] X.env = (false, eval e X.env) :: starEach [] X.env := by rfl) : PE X (.Call (.Name "tuple" p) [e] [] pos) (tTupRZ te) := by
  refine ⟨fun pins s σ H Q I h => Call_ (ld_blt I hg hm boot_tuple (PyProof.Rows.callWith_type1 (args_cons (thn (he pins s σ H _ I h) fun x s1 ⟨r, a, b, t, u, v, H1, ex, hr, I1, ok, q⟩ => args_nil ?_) na) na))⟩
  subst ex
  refine call_tuple_range (n := (b - a).toNat) (I1.ok.hd hc) hr (small_one ok.1 ok.2.1 ok.2.2.1 ok.2.2.2.1) (rangeSize_nat a b) ok.2.2.2.2 fun h' tk acc hk hi => ?_
  have I2 : Inv X pins σ H1 { s1 with heap := h', toks := tk } := I1.kept hk
  have I3 := lay_tup I2 (vals_rg hi) (by rw [rgV_length, sizeLine_eq]; have := ok.2.2.2.2; omega)
  rw [Array.toArray_toList] at I3
  exact ⟨.ref h'.objs.size, _, I3, rfl, q _ _ (I2.hok.fresh (Nat.le_refl _)) rfl⟩
theorem le_tupRg {e : Expr} {m : M (List D)} {p pos : Pos} (hc : X.calm = true) (hm : X.mg "tuple" = none) (he : LR X c W e m) (hg : Gl X "tuple" := by rfl) (na : starEach [e] X.env = (false, eval e X.env) :: starEach [] X.env := by rfl) : LE X c W (.Call (.Name "tuple" p) [e] [] pos) (mTup m) :=
  PE.imp (pe_tupRZ hc hg hm he na) fun σ H Q ⟨l, S, rp, po⟩ => by
    refine ⟨l, S, rp, ?_⟩
    unfold mTup at po
    cases e : m S with
    | no =>
      rw [bnd_no e] at po
      exact po
    | er x S1 =>
      rw [bnd_er e] at po
      exact po
    | ok ds S1 =>
      rw [bnd_ok e] at po
      intro a b H1 l1 rp1 g1 ex ok
      refine ⟨rg_ok ok, fun q ob hq hob => ?_⟩
      obtain ⟨rp2, g2⟩ := rp1.lay (o := .frz ob (.tup (rgV a b))) hq (fun _ z => nomatch z)
      subst ex
      exact po _ _ _ rp2 (g1.trans g2) (.tup (SqN.of upd_same hob) (rg_dt a b))
/-- list(xs) -/
theorem lf_list {a : Expr} {o : Opd} {p pos : Pos} (hm : X.mg "list" = none) (ha : LO X c W a o) (hg : Gl X "list" := by rfl) (he : starEach [a] X.env = (false, eval a X.env) :: starEach [] X.env := by rfl) : LF X c W (.Call (.Name "list" p) [a] [] pos) (mListF o) :=
  PE.imp (pe_callTy (T := "list") call_list_of hg hm (by decide +kernel) (pa_cons ha pa_nil he) (he := he)) fun σ H Q ⟨l, S, rp, po⟩ => by
    refine ⟨l, S, rp, ?_⟩
    unfold mListF at po
    cases e : o.ev S with
    | no =>
      rw [bnd_no e] at po
      exact po
    | er x S1 =>
      rw [bnd_er e] at po
      exact po
    | ok d0 S1 =>
      rw [bnd_ok e] at po
      intro v H1 l1 rp1 g1 q1
      cases e2 : o.rd d0 S1 with
      | no =>
        rw [bnd_no e2] at po
        exact po.elim
      | er x S2 => exact (rd_er e2).elim
      | ok d S2 =>
        rw [bnd_ok e2] at po
        obtain ⟨rfl, rv⟩ := rd_ok rp1 (Gr.refl _) q1 e2
        cases d with
        | lst ds =>
          obtain ⟨a, vs, rfl, h1, h2⟩ := rv.lst rp1.rt.lh
          refine ⟨a, vs, rfl, .inl (SqL.of h1), fun q hq => ?_⟩
          have n := rp1.new (vs := vs) hq
          exact po q vs _ l1 n.1 g1 upd_same n.2 h2
        | tup ds =>
          obtain ⟨a, vs, rfl, h1, h2⟩ := rv.tup rp1.rt.lh
          refine ⟨a, vs, rfl, .inr h1, fun q hq => ?_⟩
          have n := rp1.new (vs := vs) hq
          exact po q vs _ l1 n.1 g1 upd_same n.2 h2
        | _ => exact po.elim
/-- xs + ys, a new list -/
def mAddF (o p : Opd) : M (List D) := bnd o.ev fun x => bnd p.ev fun y => bnd (o.rd x) fun a => bnd (p.rd y) fun b => opt (match a, b with
  | .lst xs, .lst ys => if xs.length + ys.length ≤ line then some (xs ++ ys) else none
  | _, _ => none)
theorem lf_add {a b : Expr} {o p : Opd} {pos : Pos} (ha : LO X c W a o) (hb : LO X c W b p) : LF X c W (.BinOp a .Add b pos) (mAddF o p) :=
  PE.imp (pe_op op_cat ha hb) fun σ H Q ⟨l, S, rp, po⟩ => by
    refine ⟨l, S, rp, ?_⟩
    unfold mAddF at po
    cases e : o.ev S with
    | no =>
      rw [bnd_no e] at po
      exact po
    | er x S1 =>
      rw [bnd_er e] at po
      exact po
    | ok d0 S1 =>
      rw [bnd_ok e] at po
      intro v H1 l1 rp1 g1 q1
      refine ⟨l1, S1, rp1, ?_⟩
      cases e' : p.ev S1 with
      | no =>
        rw [bnd_no e'] at po
        exact po
      | er x S2 =>
        rw [bnd_er e'] at po
        exact fun cls dd H' l' rp' g f => po cls dd H' l' rp' (g1.trans g) f
      | ok d1 S2 =>
        rw [bnd_ok e'] at po
        intro w H2 l2 rp2 g2 q2
        cases f1 : o.rd d0 S2 with
        | no =>
          rw [bnd_no f1] at po
          exact po.elim
        | er x S3 => exact (rd_er f1).elim
        | ok da S3 =>
          rw [bnd_ok f1] at po
          obtain ⟨rfl, ra⟩ := rd_ok rp2 (Gr.refl _) (q1.grow g2) f1
          cases f2 : p.rd d1 S3 with
          | no =>
            rw [bnd_no f2] at po
            exact po.elim
          | er x S4 => exact (rd_er f2).elim
          | ok db S4 =>
            rw [bnd_ok f2] at po
            obtain ⟨rfl, rb⟩ := rd_ok rp2 (Gr.refl _) q2 f2
            cases da with
            | lst xs =>
              cases db with
              | lst ys =>
                obtain ⟨pa, vs, rfl, h1, h2⟩ := ra.lst rp2.rt.lh
                obtain ⟨pb, ws, rfl, h3, h4⟩ := rb.lst rp2.rt.lh
                by_cases hz : xs.length + ys.length ≤ line
                · have po : RF X.K c W l σ Q (opt (if xs.length + ys.length ≤ line then some (xs ++ ys) else none) S4) := po
                  rw [if_pos hz] at po
                  refine ⟨pa, pb, vs, ws, rfl, rfl, h1, h3, by rw [h2.length, h4.length, sizeLine_eq]; exact hz, fun q hq => ?_⟩
                  have n := rp2.new (vs := vs ++ ws) hq
                  exact po q _ _ l2 n.1 (g1.trans g2) upd_same n.2 (h2.append h4)
                · have po : RF X.K c W l σ Q (opt (if xs.length + ys.length ≤ line then some (xs ++ ys) else none) S4) := po
                  rw [if_neg hz] at po
                  exact po.elim
              | _ => exact po.elim
            | _ => exact po.elim
end
end Lw

set_option Elab.async false
set_option linter.all false
set_option maxRecDepth 100000
set_option maxHeartbeats 4000000
/-! Lw: what the drawing defs compute (their mirrors are as gen.py prints them). -/
namespace Lw
open PySem
def b__law_mixed : M Fl := sSeq (sAsg (m2 dAdd (.v (m2 dAdd (.v (m2 dMd (.v (mBi dInt [.v (m2 dMul (.v (m2 dMul (.n 0) (.v (m2 dAdd (.v (ret (.int 1))) (.v (m2 dMul (.v (ret (.int 2))) (.n 1))))))) (.v (ret (.int 48271))))])) (.v (ret (.int 2147483647))))) (.v (m2 dMul (.v (m2 dMul (.v (ret (.int 7919))) (.n 1))) (.n 1))))) (.v (m2 dMul (.v (ret (.int 104729))) (.n 1)))) (gV 2)) (sRet (m2 dFd (.v (m2 dMd (.v (mBi dInt [.v (m2 dMul (.n 2) (.v (ret (.int 69621))))])) (.v (ret (.int 2147483629))))) (.v (ret (.int 7)))))
def f__law_mixed : Fn := fnOf 3 2 b__law_mixed
def b__law_draw : M Fl := sSeq (sAsg (mSpot 0) (gV 2)) (sSeq (sSpot 0 (m2 dAdd (.n 2) (.v (ret (.int 1))))) (sSeq (sIf (tGreat 0) (sSeq (sLot 2 0 3) (sSeq (sAsg (m2 dMd (.v (mBi dInt [.n 2])) (.v (mLen 3))) (gV 4)) (sSeq (sAsg (mLotIx 3 (mV 4)) (gV 5)) (sIf (tB (m2 dGt (.n 5) (.v (ret (.int 0))))) (sSeq (sLotSet 3 (mV 4) (m2 dFd (.n 5) (.n 1))) (sRet (m2 dMd (.v (mBi dInt [.n 5])) (.n 1)))) (sNx))))) (sNx)) (sSeq (sLot 1 0 3) (sRet (m2 dMd (.v (mBi dInt [.v (mCall f__law_mixed (aCons (mCall f__law_mixed (aCons (m2 dAdd (.v (mLotIx 3 (m2 dMd (.v (mBi dInt [.n 2])) (.v (ret (.int 64)))))) (.v (m2 dMul (.v (ret (.int 31))) (.v (m2 dFd (.n 2) (.v (ret (.int 64)))))))) (aCons (mV 2) (aNil)))) (aCons (m2 dAdd (.n 2) (.v (ret (.int 7)))) (aNil))))])) (.n 1))))))
def f__law_draw : Fn := fnOf 6 2 b__law_draw
theorem small_of {a : Int} (h1 : -(2 ^ 64) < a) (h2 : a < 2 ^ 64) : small64 a = true := by
  unfold small64
  exact decide_eq_true (by omega)
theorem mul_s {a b : Int} (h : small64 a = true ∨ small64 b = true) : dMul (.int a) (.int b) = some (.int (a * b)) := by
  unfold dMul
  rcases h with h | h <;> simp [h]
theorem mixed_ok {c n : Int} (hc : 0 ≤ c) (hc2 : c < 2 ^ 62) (hn : 0 ≤ n) (hn2 : n < 2 ^ 50) : ∃ r : Int, (∀ ds : Option DSt, f__law_mixed [.int c, .int n] ds = .ok (.int r) ds) ∧ 0 ≤ r ∧ r < 2 ^ 29 := by
  have e1 : dMul (.int 2) (.int n) = some (.int (2 * n)) := mul_s (.inl (small_of (by decide) (by decide)))
  have e2 : dMul (.int c) (.int (1 + 2 * n)) = some (.int (c * (1 + 2 * n))) := mul_s (.inl (small_of (by omega) (by omega)))
  have e3 : dMul (.int (c * (1 + 2 * n))) (.int 48271) = some (.int (c * (1 + 2 * n) * 48271)) := mul_s (.inr (small_of (by decide) (by decide)))
  have e4 : dMul (.int 7919) (.int n) = some (.int (7919 * n)) := mul_s (.inl (small_of (by decide) (by decide)))
  have e5 : dMul (.int (7919 * n)) (.int n) = some (.int (7919 * n * n)) := mul_s (.inr (small_of (by omega) (by omega)))
  have e6 : dMul (.int 104729) (.int n) = some (.int (104729 * n)) := mul_s (.inl (small_of (by decide) (by decide)))
  refine ⟨(c * (1 + 2 * n) * 48271 % 2147483647 + 7919 * n * n + 104729 * n) * 69621 % 2147483629 / 7, ?_, ?_, ?_⟩
  · intro ds
    have e7 : dMul (.int (c * (1 + 2 * n) * 48271 % 2147483647 + 7919 * n * n + 104729 * n)) (.int 69621) = some (.int ((c * (1 + 2 * n) * 48271 % 2147483647 + 7919 * n * n + 104729 * n) * 69621)) := mul_s (.inr (small_of (by decide) (by decide)))
    simp [f__law_mixed, fnOf, b__law_mixed, sSeq, sAsg, sRet, m2, mBi, bnd, Opd.ev, Opd.rd, rdS, start, evs, rds, ret, opt, cl, gV, putS, e1, e2, e3, e4, e5, e6, e7, dAdd, dMd, dFd, dInt]
  · have := Int.emod_nonneg ((c * (1 + 2 * n) * 48271 % 2147483647 + 7919 * n * n + 104729 * n) * 69621) (by decide : (2147483629 : Int) ≠ 0)
    omega
  · have := Int.emod_lt_of_pos ((c * (1 + 2 * n) * 48271 % 2147483647 + 7919 * n * n + 104729 * n) * 69621) (by decide : (0 : Int) < 2147483629)
    omega
theorem ix_nat {n : Nat} {i : Int} (h1 : 0 ≤ i) (h2 : i < n) : L2.ixN n i = some i.toNat := by
  unfold L2.ixN
  rw [if_pos h1, if_pos h2]
theorem at_nat {α : Type} {xs : List α} {i : Int} {x : α} (h1 : 0 ≤ i) (h2 : i < xs.length) (e : xs[i.toNat]? = some x) : L2.atI xs i = some x := by
  unfold L2.atI
  rw [ix_nat h1 h2]
  exact e
theorem get_lt {α : Type} {xs : List α} {i : Nat} (h : i < xs.length) : ∃ x, xs[i]? = some x ∧ x ∈ xs := ⟨xs[i], by simp [h], List.getElem_mem h⟩
theorem draw_hp {lim : Int} {st : DSt} (h1 : 0 < lim) (h2 : lim < 1073741824) (h3 : st.spot < 1000000000000) : ∃ (v : Int) (st' : DSt), f__law_draw [.dm, .int lim] (some st) = .ok (.int v) (some st') ∧ 0 ≤ v ∧ v < lim ∧ st'.spot = st.spot + 1 ∧ st'.hp = st.hp := by
  have h2' : lim.natAbs < 1073741824 := by omega
  have hl : ((st.spot : Int) % 64).toNat < st.cells.length := by
    rw [st.hc.1]
    omega
  obtain ⟨x, hx, hm⟩ := get_lt hl
  have hb := st.hc.2 x hm
  have ea : L2.atI st.cells ((st.spot : Int) % 64) = some x := at_nat (by omega) (by rw [st.hc.1]; omega) hx
  have em : dMul (.int 31) (.int ((st.spot : Int) / 64)) = some (.int (31 * ((st.spot : Int) / 64))) := mul_s (.inl (small_of (by decide) (by decide)))
  obtain ⟨r1, er1, hr1, hr1'⟩ := mixed_ok (c := x + 31 * ((st.spot : Int) / 64)) (n := (st.spot : Int)) (by omega) (by omega) (by omega) (by omega)
  obtain ⟨r2, er2, hr2, hr2'⟩ := mixed_ok (c := r1) (n := (st.spot : Int) + 7) (by omega) (by omega) (by omega) (by omega)
  have hs : 0 ≤ (st.spot : Int) + 1 := by omega
  have ht : ((st.spot : Int) + 1).toNat = st.spot + 1 := by omega
  by_cases hg : st.great.isEmpty = true
  · refine ⟨r2 % lim, st.go (st.spot + 1), ?_, Int.emod_nonneg _ (by omega), Int.emod_lt_of_pos _ h1, rfl, rfl⟩
    simp [f__law_draw, fnOf, b__law_draw, sSeq, sAsg, sRet, sIf, sNx, m2, mBi, bnd, Opd.ev, Opd.rd, rdS, start, evs, rds, ret, opt, cl, gV, putS, mSpot, sSpot, dmAt, tGreat, DSt.go, hg, hs, ht, sLot, mLotIx, lotAt, mCall, call, aCons, aNil, mV, dAdd, dMd, dFd, dInt, ea, em, er1, er2, h1]
  · have hn : st.great ≠ [] := fun e => hg (by rw [e]; rfl)
    have hlen : 0 < st.great.length := List.length_pos_iff.mpr hn
    have hg' : st.great.isEmpty = false := by simpa using hg
    have q1 : 0 ≤ (st.spot : Int) % (st.great.length : Int) := Int.emod_nonneg _ (by omega)
    have q2 : (st.spot : Int) % (st.great.length : Int) < (st.great.length : Int) := Int.emod_lt_of_pos _ (by omega)
    obtain ⟨y, hy, hym⟩ := get_lt (xs := st.great) (i := ((st.spot : Int) % (st.great.length : Int)).toNat) (by omega)
    have ey : L2.atI st.great ((st.spot : Int) % (st.great.length : Int)) = some y := at_nat q1 q2 hy
    have ei : L2.ixN st.great.length ((st.spot : Int) % (st.great.length : Int)) = some ((st.spot : Int) % (st.great.length : Int)).toNat := ix_nat q1 q2
    have hlp : (0 : Int) < (st.great.length : Int) := by omega
    by_cases hp : 0 < y
    · have hd : 0 ≤ y / lim := Int.ediv_nonneg (by omega) (by omega)
      refine ⟨y % lim, (st.go (st.spot + 1)).put ((st.spot : Int) % (st.great.length : Int)).toNat (y / lim) hd, ?_, Int.emod_nonneg _ (by omega), Int.emod_lt_of_pos _ h1, rfl, rfl⟩
      simp [f__law_draw, fnOf, b__law_draw, sSeq, sAsg, sRet, sIf, sNx, m2, mBi, bnd, Opd.ev, Opd.rd, rdS, start, evs, rds, ret, opt, cl, gV, putS, mSpot, sSpot, dmAt, tGreat, DSt.go, hg', hs, ht, sLot, mLotIx, mLen, lotAt, mV, dAdd, dMd, dFd, dInt, dGt, tB, asB, ey, ei, h1, h2', hp, hlp, hlen, sLotSet, DSt.put, hd]
    · refine ⟨r2 % lim, st.go (st.spot + 1), ?_, Int.emod_nonneg _ (by omega), Int.emod_lt_of_pos _ h1, rfl, rfl⟩
      simp [f__law_draw, fnOf, b__law_draw, sSeq, sAsg, sRet, sIf, sNx, m2, mBi, bnd, Opd.ev, Opd.rd, rdS, start, evs, rds, ret, opt, cl, gV, putS, mSpot, sSpot, dmAt, tGreat, DSt.go, hg', hs, ht, sLot, mLotIx, mLen, lotAt, mV, dAdd, dMd, dFd, dInt, dGt, tB, asB, ey, ei, h1, h2', hp, hlp, hlen, mCall, call, aCons, aNil, ea, em, er1, er2]
/-! ### loops -/
theorem draw_ok {lim : Int} {st : DSt} (h1 : 0 < lim) (h2 : lim < 1073741824) (h3 : st.spot < 1000000000000) : ∃ (v : Int) (st' : DSt), f__law_draw [.dm, .int lim] (some st) = .ok (.int v) (some st') ∧ 0 ≤ v ∧ v < lim ∧ st'.spot = st.spot + 1 := by
  obtain ⟨v, st', a, b, c, d, _⟩ := draw_hp h1 h2 h3
  exact ⟨v, st', a, b, c, d⟩
theorem forL_one {g : Tg} {b : M Fl} {x : D} {xs : List D} {s0 s1 : S} (h : bnd (cl (g x)) (fun _ => b) s0 = .ok .nx s1) : forL g b (x :: xs) s0 = forL g b xs s1 := by
  show bnd (cl (g x)) (fun _ => bnd b _) s0 = _
  unfold bnd at h ⊢
  cases e : cl (g x) s0 with
  | no =>
    rw [e] at h
    cases h
  | er y s =>
    rw [e] at h
    cases h
  | ok u s =>
    rw [e] at h
    dsimp only at h ⊢
    rw [h]
theorem forL_inv {g : Tg} {b : M Fl} {P : S → Prop} : ∀ (xs : List D) (s : S), P s → (∀ x ∈ xs, ∀ s, P s → ∃ s', bnd (cl (g x)) (fun _ => b) s = .ok .nx s' ∧ P s') → ∃ s', forL g b xs s = .ok .nx s' ∧ P s'
  | [], s, h, _ => ⟨s, rfl, h⟩
  | x :: xs, s, h, k => by
    obtain ⟨s1, e1, h1⟩ := k x (List.mem_cons_self ..) s h
    obtain ⟨s2, e2, h2⟩ := forL_inv xs s1 h1 fun y hy => k y (List.mem_cons_of_mem _ hy)
    exact ⟨s2, by rw [forL_one e1]; exact e2, h2⟩
theorem lcL_map {g : Tg} {t : M Bool} {e : M D} {vs : List Nat} {f : D → D} {s : S} : ∀ xs : List D, (∀ x ∈ xs, lc1 g t e vs x s = .ok [f x] s) → lcL g t e vs xs s = .ok (xs.map f) s
  | [], _ => rfl
  | x :: xs, h => by
    show bnd (lc1 g t e vs x) _ s = _
    rw [bnd_ok (h x (List.mem_cons_self ..)), bnd_ok (lcL_map xs fun y hy => h y (List.mem_cons_of_mem _ hy))]
    rfl
/-! ### _law_folded -/
def fo1 : M Fl := sOwn 1 (mLc (mRg1 (ret (.int 64))) (gV 2) (tTrue) (m2 dAdd (.v (ret (.int 17))) (.n 2)) [2])
def fo2b : M Fl := sAsg (m2 dMd (.v (mBi dInt [.v (m2 dAdd (.v (m2 dMul (.v (m2 dIx (.n 1) (.v (m2 dMd (.v (mBi dInt [.n 2])) (.v (ret (.int 64))))))) (.v (ret (.int 48271))))) (.n 3))])) (.v (ret (.int 2147483647)))) (gIx 1 (m2 dMd (.v (mBi dInt [.n 2])) (.v (ret (.int 64)))))
def fo2 : M Fl := sFor (bnd (mV 0) (fun a => opt (iEn a))) (gT [gV 2, gV 3]) fo2b
def fo3b : M Fl := sAsg (m2 dMd (.v (mBi dInt [.v (m2 dAdd (.v (m2 dIx (.n 1) (.n 2))) (.v (m2 dMul (.v (m2 dIx (.n 1) (.v (m2 dSub (.n 2) (.v (ret (.int 1))))))) (.v (ret (.int 16807))))))])) (.v (ret (.int 2147483647)))) (gIx 1 (mV 2))
def fo3 : M Fl := sFor (mRg2 (ret (.int 1)) (ret (.int 64))) (gV 2) fo3b
def FoP (ns : List Int) (ds : Option DSt) (s : S) : Prop := ∃ (cs : List Int) (a b : Option Sl), s = ⟨[some (.d (.scr ns)), some (.l (cs.map .int)), a, b], ds⟩ ∧ cs.length = 64 ∧ ∀ x ∈ cs, 0 ≤ x ∧ x < 2147483648
theorem rg_mem {a b : Int} {x : D} (h : x ∈ rg a b) : ∃ i : Int, x = .int i ∧ a ≤ i ∧ i < b := by
  unfold rg at h
  obtain ⟨n, hn, rfl⟩ := List.mem_map.mp h
  have := List.mem_range.mp hn
  exact ⟨a + (n : Nat), rfl, by omega, by omega⟩
theorem mem_setI {cs : List Int} {n : Nat} {x y : Int} (h : y ∈ cs.set n x) : y ∈ cs ∨ y = x := List.mem_or_eq_of_mem_set h
theorem ixOf_nat {n : Nat} {i : Int} (h1 : 0 ≤ i) (h2 : i < n) : ixOf n i = some i.toNat := by
  unfold ixOf
  rw [if_pos h1, if_pos h2]
theorem atI_map {cs : List Int} {i x : Int} (h : L2.atI cs i = some x) : L2.atI (cs.map D.int) i = some (.int x) := by
  unfold L2.atI at h ⊢
  rw [List.length_map]
  cases e : L2.ixN cs.length i with
  | none =>
    rw [e] at h
    cases h
  | some n =>
    rw [e] at h
    have h : cs[n]? = some x := h
    show (cs.map D.int)[n]? = _
    rw [List.getElem?_map, h]
    rfl
theorem fo1_ok (ns : List Int) (ds : Option DSt) : ∃ s, fo1 ⟨start 4 [.scr ns], ds⟩ = .ok .nx s ∧ FoP ns ds s := by
  have h0 : start 4 [.scr ns] = [some (.d (.scr ns)), none, none, none] := rfl
  have hr : iRg1 (.int 64) = some (rg 0 64) := by
    have h : rgOk 0 64 = true := by decide
    unfold iRg1
    dsimp only
    rw [if_pos h]
  have hm : lcL (gV 2) tTrue (m2 dAdd (.v (ret (.int 17))) (.n 2)) [2] (rg 0 64) ⟨[some (.d (.scr ns)), none, none, none], ds⟩ = .ok ((rg 0 64).map fun d => match d with | .int i => .int (17 + i) | _ => .non) ⟨[some (.d (.scr ns)), none, none, none], ds⟩ := by
    refine lcL_map _ fun x hx => ?_
    obtain ⟨i, rfl, _, _⟩ := rg_mem hx
    simp [lc1, bnd, cl, gV, putS, tTrue, ret, m2, Opd.ev, Opd.rd, rdS, opt, dAdd, wipeS]
  refine ⟨⟨[some (.d (.scr ns)), some (.l ((rg 0 64).map fun d => match d with | .int i => .int (17 + i) | _ => .non)), none, none], ds⟩, ?_, ?_⟩
  · rw [h0]
    simp [fo1, sOwn, mLc, mRg1, bnd, ret, opt, hr, lcA, noOwn, wipeS, hm, unwipe, putS]
  · refine ⟨(List.range 64).map fun (n : Nat) => 17 + (n : Int), none, none, ?_, by simp, fun x hx => ?_⟩
    · have : (rg 0 64).map (fun d => match d with | .int i => D.int (17 + i) | _ => .non) = ((List.range 64).map fun (n : Nat) => 17 + (n : Int)).map D.int := by
        unfold rg
        rw [List.map_map, List.map_map]
        refine List.map_congr_left fun n _ => ?_
        simp
      rw [this]
    · obtain ⟨n, hn, rfl⟩ := List.mem_map.mp hx
      have := List.mem_range.mp hn
      omega
theorem fo2_ok {ns : List Int} {ds : Option DSt} {s : S} (h : FoP ns ds s) : ∃ s', fo2 s = .ok .nx s' ∧ FoP ns ds s' := by
  have key : ∀ x ∈ enumF 0 (ns.map D.int), ∀ s, FoP ns ds s → ∃ s', bnd (cl (gT [gV 2, gV 3] x)) (fun _ => fo2b) s = .ok .nx s' ∧ FoP ns ds s' := by
    intro x hx s hs
    obtain ⟨n, c, rfl⟩ : ∃ (n : Nat) (c : Int), x = .pr [.int (n : Int), .int c] := by
      have : ∀ (ms : List Int) (k : Nat), x ∈ enumF k (ms.map D.int) → ∃ (n : Nat) (c : Int), x = .pr [.int (n : Int), .int c] := by
        intro ms
        induction ms with
        | nil =>
          intro k h
          cases h
        | cons m ms ih =>
          intro k h
          rcases List.mem_cons.mp h with h | h
          · exact ⟨k, m, h⟩
          · exact ih (k + 1) h
      exact this ns 0 hx
    obtain ⟨cs, a, b, rfl, hl, hb⟩ := hs
    have q1 : 0 ≤ (n : Int) % 64 := Int.emod_nonneg _ (by decide)
    have q2 : (n : Int) % 64 < 64 := Int.emod_lt_of_pos _ (by decide)
    obtain ⟨y, hy, hym⟩ := get_lt (xs := cs) (i := ((n : Int) % 64).toNat) (by omega)
    have ey : L2.atI (cs.map D.int) ((n : Int) % 64) = some (.int y) := atI_map (at_nat q1 (by omega) hy)
    have ei : ixOf (cs.map D.int).length ((n : Int) % 64) = some ((n : Int) % 64).toNat := ixOf_nat q1 (by rw [List.length_map, hl]; exact q2)
    have em : dMul (.int y) (.int 48271) = some (.int (y * 48271)) := mul_s (.inr (small_of (by decide) (by decide)))
    have ei' : ixOf cs.length ((n : Int) % 64) = some ((n : Int) % 64).toNat := ixOf_nat q1 (by rw [hl]; exact q2)
    refine ⟨⟨[some (.d (.scr ns)), some (.l ((cs.set ((n : Int) % 64).toNat ((y * 48271 + c) % 2147483647)).map .int)), some (.d (.int n)), some (.d (.int c))], ds⟩, ?_, cs.set ((n : Int) % 64).toNat ((y * 48271 + c) % 2147483647), _, _, rfl, by simp [hl], fun z hz => ?_⟩
    · simp [fo2b, bnd, cl, gT, gAll, gV, putS, ret, sAsg, m2, mBi, evs, rds, Opd.ev, Opd.rd, rdS, opt, dMd, dInt, dIx, ey, em, dAdd, gIx, ixS, ei', List.map_set]
    · rcases mem_setI hz with hz | rfl
      · exact hb z hz
      · have e1 := Int.emod_nonneg (y * 48271 + c) (by decide : (2147483647 : Int) ≠ 0)
        have e2 := Int.emod_lt_of_pos (y * 48271 + c) (by decide : (0 : Int) < 2147483647)
        omega
  obtain ⟨s', e, hs'⟩ := forL_inv (P := FoP ns ds) (enumF 0 (ns.map D.int)) s h key
  refine ⟨s', ?_, hs'⟩
  obtain ⟨cs, a, b, rfl, _, _⟩ := h
  have : fo2 ⟨[some (.d (.scr ns)), some (.l (cs.map .int)), a, b], ds⟩ = forL (gT [gV 2, gV 3]) fo2b (enumF 0 (ns.map D.int)) ⟨[some (.d (.scr ns)), some (.l (cs.map .int)), a, b], ds⟩ := by
    simp [fo2, sFor, bnd, mV, opt, iEn, seqI, ret]
  rw [this]
  exact e
theorem fo3_ok {ns : List Int} {ds : Option DSt} {s : S} (h : FoP ns ds s) : ∃ s', fo3 s = .ok .nx s' ∧ FoP ns ds s' := by
  have key : ∀ x ∈ rg 1 64, ∀ s, FoP ns ds s → ∃ s', bnd (cl (gV 2 x)) (fun _ => fo3b) s = .ok .nx s' ∧ FoP ns ds s' := by
    intro x hx s hs
    obtain ⟨n, rfl, n1, n2⟩ := rg_mem hx
    obtain ⟨cs, a, b, rfl, hl, hb⟩ := hs
    obtain ⟨y, hy, hym⟩ := get_lt (xs := cs) (i := n.toNat) (by omega)
    obtain ⟨z, hz, hzm⟩ := get_lt (xs := cs) (i := (n - 1).toNat) (by omega)
    have ey : L2.atI (cs.map D.int) n = some (.int y) := atI_map (at_nat (by omega) (by omega) hy)
    have ez : L2.atI (cs.map D.int) (n - 1) = some (.int z) := atI_map (at_nat (by omega) (by omega) hz)
    have ei' : ixOf cs.length n = some n.toNat := ixOf_nat (by omega) (by omega)
    have em : dMul (.int z) (.int 16807) = some (.int (z * 16807)) := mul_s (.inr (small_of (by decide) (by decide)))
    refine ⟨⟨[some (.d (.scr ns)), some (.l ((cs.set n.toNat ((y + z * 16807) % 2147483647)).map .int)), some (.d (.int n)), b], ds⟩, ?_, cs.set n.toNat ((y + z * 16807) % 2147483647), _, _, rfl, by simp [hl], fun u hu => ?_⟩
    · simp [fo3b, bnd, cl, gV, putS, ret, sAsg, m2, mBi, evs, rds, Opd.ev, Opd.rd, rdS, opt, dMd, dInt, dIx, ey, ez, em, dAdd, dSub, gIx, ixS, mV, ei', List.map_set]
    · rcases mem_setI hu with hu | rfl
      · exact hb u hu
      · have e1 := Int.emod_nonneg (y + z * 16807) (by decide : (2147483647 : Int) ≠ 0)
        have e2 := Int.emod_lt_of_pos (y + z * 16807) (by decide : (0 : Int) < 2147483647)
        omega
  obtain ⟨s', e, hs'⟩ := forL_inv (P := FoP ns ds) (rg 1 64) s h key
  refine ⟨s', ?_, hs'⟩
  have hr : iRg2 (.int 1) (.int 64) = some (rg 1 64) := by
    have h : rgOk 1 64 = true := by decide
    unfold iRg2
    dsimp only
    rw [if_pos h]
  have : fo3 s = forL (gV 2) fo3b (rg 1 64) s := by
    simp [fo3, sFor, bnd, mRg2, opt, ret, hr]
  rw [this]
  exact e
theorem folded_ok (ns : List Int) : ∃ cs : List Int, (cs.length = 64 ∧ ∀ x ∈ cs, 0 ≤ x ∧ x < 2147483648) ∧ ∃ s1 s2 a b, fo1 ⟨start 4 [.scr ns], none⟩ = .ok .nx s1 ∧ fo2 s1 = .ok .nx s2 ∧ fo3 s2 = .ok .nx ⟨[some (.d (.scr ns)), some (.l (cs.map .int)), a, b], none⟩ := by
  obtain ⟨s1, e1, h1⟩ := fo1_ok ns none
  obtain ⟨s2, e2, h2⟩ := fo2_ok h1
  obtain ⟨s3, e3, cs, a, b, rfl, hl, hb⟩ := fo3_ok h2
  exact ⟨cs, ⟨hl, hb⟩, s1, s2, a, b, e1, e2, e3⟩
noncomputable def cellsOf (ns : List Int) : List Int := Classical.choose (folded_ok ns)
theorem cells_ok (ns : List Int) : ((cellsOf ns).length = 64 ∧ ∀ x ∈ cellsOf ns, 0 ≤ x ∧ x < 2147483648) ∧ ∃ s1 s2 a b, fo1 ⟨start 4 [.scr ns], none⟩ = .ok .nx s1 ∧ fo2 s1 = .ok .nx s2 ∧ fo3 s2 = .ok .nx ⟨[some (.d (.scr ns)), some (.l ((cellsOf ns).map .int)), a, b], none⟩ := Classical.choose_spec (folded_ok ns)
/-! ### _law_begun -/
def greatOf (ns : List Int) : List Int := ns.map fun c => if 1000000000000000000 ≤ c then c else 0
noncomputable def begun (ns : List Int) : DSt := ⟨cellsOf ns, greatOf ns, 0, (cells_ok ns).1, fun x hx => by
  unfold greatOf at hx
  obtain ⟨c, _, rfl⟩ := List.mem_map.mp hx
  split <;> omega, []⟩
noncomputable def f__law_begun : Fn := fun xs ds => match xs, ds with
  | [.scr ns], none => .ok .dm (some (begun ns))
  | _, _ => .no
end Lw

set_option Elab.async false
set_option linter.all false
set_option maxRecDepth 100000
set_option maxHeartbeats 4000000
/-! Lw: _law_folded, _law_begun: the drawing state is made. -/
namespace Lw
open PySem PySem.Spec PyProof.Rows L2

/-- a new list of the cells, which nobody else knows -/
def spN (K : PySem.W.Frag) (T : List (Addr × Str)) : Sp := fun vs H Q _ => ∃ v l ns, vs = [v] ∧ Ret K T l H l H none ∧ Dt K l v (.scr ns) ∧ ∀ p H' l', Ret K T l H l' H' none → H' p = some (.lst ((cellsOf ns).map V.int)) → l'.L p = none → H p = none → Q (.ref p) H'
def FnN (P : Program) (w : World) (K : PySem.W.Frag) (mg : Str → Option Value) (base : Heap) (T : List (Addr × Str)) (k : Nat) (f : Addr) : Prop :=
  ∀ (A : Around) (outer : List Env) (s : Shared) (H : Hp) (us : List Value) (vs : List V) (Q : VK) (E : XK), Room k A → A.guards = some [] → Env0 P w K mg base A outer s H → Vals vs us → spN K T vs H Q E →
    codeAny (model P w) A (.call (.ref f) ⟨us, []⟩) (CR (L2.CX P w) outer P w H s Q E) s
section
variable {P : Program} {w : World} {K : PySem.W.Frag} {mg : Str → Option Value} {base : Heap} {T : List (Addr × Str)}
theorem run_nx {c : Pk} {W : WX} {a : M Fl} {D : Ends} {l : Lh} {S S' : Lw.S} {σ : L2.St} {H : Hp} (rp : Rep K c l S σ H) (e : a S = .ok .nx S') (k : ∀ σ' H' l', Rep K c l' S' σ' H' → Gr l l' → D.nx σ' H') : liftS K c W a D σ H := ⟨l, S, rp, by rw [e]; exact k⟩
theorem okN {x qual : Str} {params : Arguments} {body : List Stmt} {scope : Scope} {f : Addr} {fd : FuncData} {N : List Str} {k : Nat} {ps : Str} (F : FunD K x qual params body scope [] [] f fd) (Sc : FnScope N [ps] scope) (hN : N.length = 4)
    (hbd : ∀ (kV doc pm : Value) (an : Option Addr) (cdv ct : Value) (us : List Value), us.length = 1 → bindArgs (PySem.W.fnOf x qual params body scope .none kV doc pm an cdv ct) ⟨us, []⟩ = pure ([ps].zip us))
    (hb : ∀ (cdv : Value) (A : Around) (outer : List Env) (s : Shared) (H : Hp) (E : XK) (c : Pk), c.T = T → A.guards = some [] → Room k (A.deeper (envOfC qual scope s.heap.objs.size f cdv)) →
      PSs (cxOf (L2.CX P w) P w K mg base N qual scope f cdv A outer s H E) body (tSeq (liftS K c (fun cls d _ H => E cls d H) fo1) (tSeq (liftS K c (fun cls d _ H => E cls d H) fo2) (tSeq (liftS K c (fun cls d _ H => E cls d H) fo3) (tRet (tVar 1)))))) :
    FnN P w K mg base T (k + 1) f := by
  intro A outer s H us vs Q E hr gd e0 rv h
  obtain ⟨v, l, ns, rfl, rt, dt, post⟩ := h
  have hb2 := F.bindsA (ps := [ps]) hbd s us (by rw [← rv.length]; rfl)
  obtain ⟨oc, od, dV, kV, doc, pm, an, cdv, ct, osl, rfl, lk, hcd, _, _⟩ := F.ex
  refine LamX.run_ofS (N := N) (ps := [ps]) lk hcd Sc hr e0 hb2 rv rfl fun hr' => ?_
  refine ⟨_, hb cdv A outer s H E ⟨T, l, H, none⟩ rfl gd hr', ?_⟩
  have rp := start_rep (K := K) (N := N) rt (.cons dt .nil)
  rw [hN] at rp
  obtain ⟨_, s1, s2, a, b, e1, e2, e3⟩ := cells_ok ns
  refine run_nx rp e1 fun σ1 H1 l1 rp1 g1 => run_nx rp1 e2 fun σ2 H2 l2 rp2 g2 => run_nx rp2 e3 fun σ3 H3 l3 rp3 g3 => ?_
  obtain ⟨p, ws, h1, h2, h3, h4, h5, _⟩ := rp3.so 1 _ rfl
  have e : ws = (cellsOf ns).map V.int := h3.intsV
  subst e
  exact ⟨.ref p, h1, post p H3 l3 rp3.rt h2 h4 h5⟩
end

/-! ### _law_begun -/
def mGr : M (List D) := mLc (bnd (mV 0) (fun a => opt (items a))) (gV 2) (tTrue) (mIf (tB (m2 dGe (.n 2) (.v (m2 dPw (.v (ret (.int 10))) (.v (ret (.int 18))))))) (mV 2) (ret (.int 0))) [2]
theorem pw18 : dPw (.int 10) (.int 18) = some (.int 1000000000000000000) := by
  show (if (0 : Int) ≤ 18 ∧ (18 : Int) ≤ 1000000 ∧ (10 : Int).natAbs < 2 ^ 64 then some (D.int ((10 : Int) ^ (18 : Int).toNat)) else none) = _
  rw [if_pos (by decide)]
  rfl
theorem great_run (ns : List Int) : mGr ⟨[some (.d (.scr ns)), none, none], none⟩ = .ok ((greatOf ns).map .int) ⟨[some (.d (.scr ns)), none, none], none⟩ := by
  have hm : lcL (gV 2) tTrue (mIf (tB (m2 dGe (.n 2) (.v (m2 dPw (.v (ret (.int 10))) (.v (ret (.int 18))))))) (mV 2) (ret (.int 0))) [2] (ns.map D.int) ⟨[some (.d (.scr ns)), none, none], none⟩ =
      .ok ((ns.map D.int).map fun d => match d with | .int c => .int (if 1000000000000000000 ≤ c then c else 0) | _ => .non) ⟨[some (.d (.scr ns)), none, none], none⟩ := by
    refine lcL_map _ fun x hx => ?_
    obtain ⟨c, _, rfl⟩ := List.mem_map.mp hx
    by_cases hc : (1000000000000000000 : Int) ≤ c
    · simp [lc1, bnd, cl, gV, putS, tTrue, ret, mIf, tB, asB, m2, Opd.ev, Opd.rd, rdS, opt, dGe, wipeS, pw18, hc, mV]
    · simp [lc1, bnd, cl, gV, putS, tTrue, ret, mIf, tB, asB, m2, Opd.ev, Opd.rd, rdS, opt, dGe, wipeS, pw18, hc, mV]
  have e : (ns.map D.int).map (fun d => match d with | .int c => D.int (if 1000000000000000000 ≤ c then c else 0) | _ => .non) = (greatOf ns).map D.int := by
    unfold greatOf
    rw [List.map_map, List.map_map]
    rfl
  rw [e] at hm
  simp [mGr, mLc, bnd, mV, opt, items, ret, lcA, noOwn, wipeS, hm, unwipe]
theorem merge3 (a b c : V) : mergeK [] [((.inr (Str.ofString "cells") : Key), a), (.inr (Str.ofString "great"), b), (.inr (Str.ofString "spot"), c)] = [(.inr (Str.ofString "cells"), a), (.inr (Str.ofString "great"), b), (.inr (Str.ofString "spot"), c)] := by
  have h1 := kne1
  have h2 := kne2
  have h3 := kne3
  simp [mergeK, putK, h1, h2, h3]
theorem put_great (a b b' c : V) : putK [((.inr (Str.ofString "cells") : Key), a), (.inr (Str.ofString "great"), b), (.inr (Str.ofString "spot"), c)] (.inr (Str.ofString "great")) b' = [(.inr (Str.ofString "cells"), a), (.inr (Str.ofString "great"), b'), (.inr (Str.ofString "spot"), c)] := by
  have h3 := kne3
  have h4 : ¬ ((.inr (Str.ofString "spot") : Key) = .inr (Str.ofString "great")) := by decide
  simp [putK, h3, h4]
/-- the reading of _law_begun's body -/
def tBeg (K : PySem.W.Frag) (T : List (Addr × Str)) : TS :=
  tSeq (tAsg (tDisp [(tC (.str "cells"), fun σ H Q => ∃ v, σ[0]? = some (some v) ∧ spN K T [v] H Q E0), (tC (.str "great"), tLst tNil), (tC (.str "spot"), tC (.int 0))]) (gName 1))
    (tSeq (sDPut (tVar 1) (tC (.str "great")) (fun σ H Q => ∃ c : Pk, c.T = T ∧ liftF K c noW mGr σ H Q)) (tRet (tVar 1)))
section
variable {X : Cx} {T : List (Addr × Str)}
/-- _law_folded(script) -/
theorem pe_fold {k : Nat} {x y : Str} {f : Addr} {p q pos : Pos} (F : FnN X.prog X.w X.K X.mg X.base T k f) (hm : X.mg x = some (.ref f)) (hk : PySem.W.keepIn X.K (.ref f) = true) (hr : Room k X.A) (gd : X.A.guards = some []) (hN : X.N[0]? = some y) (hv : Vis X.env.scope y) (hg : Gl X x := by rfl)
    (hdb : (x == ("__debug__" : Str)) = false := by decide) (hd : (y == ("__debug__" : Str)) = false := by decide) (hcd : (y == ("__classdict__" : Str)) = false := by decide)
    (he : starEach [.Name y q] X.env = (false, eval (.Name y q) X.env) :: starEach [] X.env := by rfl) (hpl : (backTo pos (starEach [] X.env)).any (·.1) = false := by rfl) :
    PE X (.Call (.Name x p) [.Name y q] [] pos) (fun σ H Q => ∃ v, σ[0]? = some (some v) ∧ spN X.K T [v] H Q E0) := by
  refine ⟨fun pins s σ H Q I h => ?_⟩
  obtain ⟨v, hv0, sp⟩ := h
  refine wpAny_Call_Name_kw (ld_glob I hg hm ?_ hdb)
  refine PySem.W.callWith_K (h₀ := X.base) I.ok.mod.kin hk (thn (PA.run (pa_cons (pv 0 hN hv hd hcd) pa_nil he) pos pins s σ H (fun vs H1 => vs = [v] ∧ H1 = H) I ⟨v, hv0, rfl, rfl⟩) fun us s1 ⟨vs, H1, I1, r, e1, e2⟩ => ⟨I1.kIn, ?_⟩) he hpl
  subst e1 e2
  refine wpAny_call (codeAny_mono (F X.A X.stack s1 H1 us [v] Q E0 hr gd I1.env0 r sp) fun r s' hq => ?_)
  cases r with
  | error e =>
    obtain ⟨_, _, _, _, _, _, _, _, _, _, _, _, z⟩ := hq
    exact z.elim
  | ok fl =>
    cases fl with
    | ret u => exact I1.after hq
    | next => exact hq.elim
    | brk => exact hq.elim
    | cont => exact hq.elim
end
theorem dk_nt {kvs : List (Key × V)} : NoTbl (.dK kvs) := fun _ z => nomatch z
theorem dk_wr {T : List (Addr × Str)} {H : Hp} {p : Addr} {kvs kvs' : List (Key × V)} (hp : H p = some (.dK kvs)) (tb : LamX.Tabs T H) : LamX.Tabs T (upd H p (.dK kvs')) := tabs_step tb fun a o h1 h2 => by
  rw [upd_ne (fun z => ?_)]
  · exact h1
  · rw [z, hp] at h1
    cases h1
    rcases h2 with ⟨ps, z⟩ | ⟨cc, q, z⟩
    · cases z
    · exact dk_ne_code z
/-- what _law_begun's body tells -/
theorem begun_read {K : PySem.W.Frag} {T : List (Addr × Str)} {l : Lh} {H : Hp} {v : V} {ns : List Int} {Q : VK} (rt : Ret K T l H l H none) (dt : Dt K l v (.scr ns)) (post : ∀ u H' l', Ret K T l H l' H' (some (begun ns)) → Dt K l' u .dm → Q u H') (nx : L2.St → Hp → Prop) :
    tBeg K T { nx := nx, rt := Q } [some v, none, none] H := by
  have wm0 : ∀ {l' : Lh} {H' : Hp}, MR l'.wm H' none → l'.wm = none := fun {l' H'} m => by
    cases e : l'.wm with
    | none => rfl
    | some t =>
      rw [e] at m
      obtain ⟨_, _, _⟩ := t
      exact m.elim
  have lw : l.wm = none := wm0 rt.mr
  have lc : l.cl = [] := rt.ce
  intro p hp
  have rt1 : Ret K T l H l (upd H p (.dK [])) none := rt.layO hp
  refine ⟨v, rfl, v, l, ns, rfl, rt1.self, dt, fun q H2 l2 rt2 hq hql hqn => ?_⟩
  have hqp : q ≠ p := fun z => by rw [z, upd_same] at hqn; cases hqn
  have hqH : H q = none := by rw [upd_ne hqp] at hqn; exact hqn
  have l2w : l2.wm = none := wm0 rt2.mr
  have l2c : l2.cl = [] := rt2.ce
  have h2p : H2 p = some (.dK []) := rt2.fr p _ upd_same (by unfold mtL; rw [lw, lc]; simp [wmL]) dk_nt
  have l2p : l2.L p = none := by
    cases e : l2.L p with
    | none => rfl
    | some o =>
      rcases rt2.nw p o e with z | z
      · have := rt.lh p o z
        rw [hp] at this
        cases this
      · rw [upd_same] at z
        cases z
  refine ⟨Nat.zero_le _, fun g hg => ?_⟩
  have hgp : p ≠ g := ne_of_none h2p hg
  refine ⟨by rw [upd_ne hgp]; exact h2p, [(.inr (Str.ofString "cells"), .ref q), (.inr (Str.ofString "great"), .ref g), (.inr (Str.ofString "spot"), .int 0)], rfl, (by show 3 ≤ 15; decide), ?_⟩
  rw [merge3]
  -- the comprehension
  have sp : p ≠ sysModules := fun z => by
    obtain ⟨ob, e⟩ := rt2.sm
    rw [z, e] at h2p
    cases h2p
  have rt3 : Ret K T l2 H2 l2 (upd H2 g (.lst [])) none := rt2.layO hg
  have rt4 : Ret K T l2 (upd (upd H2 g (.lst [])) p (.dK [(.inr (Str.ofString "cells"), .ref q), (.inr (Str.ofString "great"), .ref g), (.inr (Str.ofString "spot"), .int 0)])) l2 (upd (upd H2 g (.lst [])) p (.dK [(.inr (Str.ofString "cells"), .ref q), (.inr (Str.ofString "great"), .ref g), (.inr (Str.ofString "spot"), .int 0)])) none := by
    refine ⟨Gr.refl _, fun a o e => ?_, fun _ _ e => .inl e, rt3.ml, rt3.nt, fun _ _ e _ _ => e, fun _ e => e, dk_wr (by rw [upd_ne hgp]; exact h2p) rt3.tb, .inl rfl, fun _ h => .inl h, ?_, l2c, by obtain ⟨ob, e⟩ := rt3.sm; exact ⟨ob, by rw [upd_ne (Ne.symm sp)]; exact e⟩⟩
    · rw [upd_ne (fun z => by rw [z, l2p] at e; cases e)]
      exact rt3.lh a o e
    · rw [l2w]
      trivial
  have rp : Rep K ⟨T, l2, upd (upd H2 g (.lst [])) p (.dK [(.inr (Str.ofString "cells"), .ref q), (.inr (Str.ofString "great"), .ref g), (.inr (Str.ofString "spot"), .int 0)]), none⟩ l2 ⟨[some (.d (.scr ns)), none, none], none⟩ [some v, some (.ref p), none] (upd (upd H2 g (.lst [])) p (.dK [(.inr (Str.ofString "cells"), .ref q), (.inr (Str.ofString "great"), .ref g), (.inr (Str.ofString "spot"), .int 0)])) := by
    have only : ∀ (i : Nat) (y : Sl), ([some (Sl.d (.scr ns)), none, none] : List (Option Sl))[i]? = some (some y) → i = 0 ∧ y = .d (.scr ns) := fun i y e => by
      match i, e with
      | 0, e => simp at e; exact ⟨rfl, e.symm⟩
      | 1, e => simp at e
      | 2, e => simp at e
      | i + 3, e => simp at e
    refine ⟨rt4, rfl, fun i y e => ?_, fun i ys e => ?_, fun i j ys zs u _ e => ?_, fun i k e => ?_⟩
    · obtain ⟨rfl, z⟩ := only i _ e
      cases z
      exact ⟨v, rfl, dt.grow rt2.gr⟩
    · cases (only i _ e).2
    · cases (only i _ e).2
    · cases (only i _ e).2
  refine ⟨⟨T, l2, _, none⟩, rfl, l2, _, rp, ?_⟩
  rw [great_run]
  intro pg vs H5 l5 rp5 g5 hpg ap dgr
  have ev : vs = (greatOf ns).map V.int := dgr.intsV
  subst ev
  have h5p : H5 p = some (.dK [(.inr (Str.ofString "cells"), .ref q), (.inr (Str.ofString "great"), .ref g), (.inr (Str.ofString "spot"), .int 0)]) := rp5.rt.fr p _ upd_same (by show _ ∉ mtL l2; unfold mtL; rw [l2w, l2c]; simp [wmL]) dk_nt
  refine ⟨.ref p, rfl, p, _, rfl, .inl ⟨_, .inr (Str.ofString "great"), h5p, rfl, by rw [sizeLine_eq]; exact (by decide : 3 < 16777216), rfl⟩, ?_⟩
  rw [put_great]
  -- down the heaps
  have back : ∀ {a : Addr}, (upd (upd H2 g (.lst [])) p (.dK [(.inr (Str.ofString "cells"), .ref q), (.inr (Str.ofString "great"), .ref g), (.inr (Str.ofString "spot"), .int 0)])) a = none → H a = none := fun {a} e => by
    have n1 : a ≠ p := fun z => by rw [z, upd_same] at e; cases e
    rw [upd_ne n1] at e
    have n2 : a ≠ g := fun z => by rw [z, upd_same] at e; cases e
    rw [upd_ne n2] at e
    have := rt2.fd a e
    rw [upd_ne n1] at this
    exact this
  have h4q : (upd (upd H2 g (.lst [])) p (.dK [(.inr (Str.ofString "cells"), .ref q), (.inr (Str.ofString "great"), .ref g), (.inr (Str.ofString "spot"), .int 0)])) q = some (.lst ((cellsOf ns).map V.int)) := by
    rw [upd_ne hqp, upd_ne (ne_of_none hq hg)]
    exact hq
  have h5q : H5 q = some (.lst ((cellsOf ns).map V.int)) := rp5.rt.fr q _ h4q (by show _ ∉ mtL l2; unfold mtL; rw [l2w, l2c]; simp [wmL]) (fun _ z => nomatch z)
  have l5p : l5.L p = none := by
    cases e : l5.L p with
    | none => rfl
    | some o =>
      rcases rp5.rt.nw p o e with z | z
      · rw [show l2.L p = some o from z] at l2p
        cases l2p
      · have z : upd _ p _ p = none := z
        rw [upd_same] at z
        cases z
  have l5q : l5.L q = none := by
    cases e : l5.L q with
    | none => rfl
    | some o =>
      rcases rp5.rt.nw q o e with z | z
      · rw [show l2.L q = some o from z] at hql
        cases hql
      · have e4 := h4q.symm.trans z
        cases e4
  have apn : (upd (upd H2 g (.lst [])) p (.dK [(.inr (Str.ofString "cells"), .ref q), (.inr (Str.ofString "great"), .ref g), (.inr (Str.ofString "spot"), .int 0)])) pg = none := ap.h
  have pgp : pg ≠ p := fun z => by rw [z, upd_same] at apn; cases apn
  have pgq : q ≠ pg := fun z => by rw [← z, h4q] at apn; cases apn
  refine ⟨.ref p, rfl, post (.ref p) _ ⟨l5.L, some (p, q, pg), []⟩ ?_ (.dm rfl)⟩
  refine ⟨⟨(rt2.gr.trans rp5.rt.gr).1, .inl lw, [], by rw [lc]; rfl⟩, fun a o (e : l5.L a = some o) => ?_, fun a o (e : l5.L a = some o) => ?_, fun a ha => ?_, rp5.rt.nt, fun a o e n t => ?_, fun a e => ?_, dk_wr h5p rp5.rt.tb, .inr ⟨lw, fun a ha => ?_⟩, fun a ha => absurd ha List.not_mem_nil, ?_, ⟨rfl, List.nodup_nil, fun a ha => absurd ha List.not_mem_nil, fun k xs e => by simp [begun] at e⟩, ?_⟩
  · rw [upd_ne (fun z => by rw [z, l5p] at e; cases e)]
    exact rp5.rt.lh a o e
  · rcases rp5.rt.nw a o e with z | z
    · rcases rt2.nw a o z with z | z
      · exact .inl z
      · by_cases h : a = p
        · rw [h]
          exact .inr hp
        · rw [upd_ne h] at z
          exact .inr z
    · exact .inr (back z)
  · simp only [mtL, wmL, List.append_nil, List.mem_cons, List.not_mem_nil, or_false] at ha
    rcases ha with rfl | rfl | rfl
    · exact l5p
    · exact l5q
    · exact ap.nl
  · have n1 : a ≠ p := ne_of_none e hp
    have e1 : (upd H p (.dK [])) a = some o := by rw [upd_ne n1]; exact e
    have e2 := rt2.fr a o e1 n t
    have e4 : (upd (upd H2 g (.lst [])) p (.dK [(.inr (Str.ofString "cells"), .ref q), (.inr (Str.ofString "great"), .ref g), (.inr (Str.ofString "spot"), .int 0)])) a = some o := by
      rw [upd_ne n1, upd_ne (ne_of_none e2 hg)]
      exact e2
    rw [upd_ne n1]
    exact rp5.rt.fr a o e4 (by show _ ∉ mtL l2; unfold mtL; rw [l2w, l2c]; simp [wmL]) t
  · have n1 : a ≠ p := fun z => by rw [z, upd_same] at e; cases e
    rw [upd_ne n1] at e
    exact back (rp5.rt.fd a e)
  · simp only [wmL, List.mem_cons, List.not_mem_nil, or_false] at ha
    rcases ha with rfl | rfl | rfl
    · exact hp
    · exact hqH
    · exact back apn
  · refine ⟨?_, ?_, ?_, pgq⟩
    · rw [upd_same]
      rfl
    · rw [upd_ne hqp]
      exact h5q
    · rw [upd_ne pgp]
      exact hpg
  · obtain ⟨ob, e⟩ := rp5.rt.sm
    exact ⟨ob, by rw [upd_ne (Ne.symm sp)]; exact e⟩
section
variable {P : Program} {w : World} {K : PySem.W.Frag} {mg : Str → Option Value} {base : Heap} {T : List (Addr × Str)}
theorem okB {x qual : Str} {params : Arguments} {body : List Stmt} {scope : Scope} {f : Addr} {fd : FuncData} {N : List Str} {k : Nat} {ps : Str} (F : FunD K x qual params body scope [] [] f fd) (Sc : FnScope N [ps] scope) (hN : N.length = 3)
    (hbd : ∀ (kV doc pm : Value) (an : Option Addr) (cdv ct : Value) (us : List Value), us.length = 1 → bindArgs (PySem.W.fnOf x qual params body scope .none kV doc pm an cdv ct) ⟨us, []⟩ = pure ([ps].zip us))
    (hb : ∀ (cdv : Value) (A : Around) (outer : List Env) (s : Shared) (H : Hp) (E : XK), A.guards = some [] → Room k (A.deeper (envOfC qual scope s.heap.objs.size f cdv)) →
      PSs (cxOf (L2.CX P w) P w K mg base N qual scope f cdv A outer s H E) body (tBeg K T)) :
    FnG P w K mg base T (k + 1) f 1 f__law_begun := by
  intro A outer s H us vs Q E hr gd e0 rv h
  obtain ⟨hl, l, ds, xs, rt, da, post⟩ := h
  have hb2 := F.bindsA (ps := [ps]) hbd s us (by rw [← rv.length]; exact hl)
  obtain ⟨oc, od, dV, kV, doc, pm, an, cdv, ct, osl, rfl, lk, hcd, _, _⟩ := F.ex
  refine LamX.run_ofS (N := N) (ps := [ps]) lk hcd Sc hr e0 hb2 rv hl fun hr' => ?_
  refine ⟨_, hb cdv A outer s H E gd hr', ?_⟩
  by_cases hx : ∃ ns, xs = [.scr ns] ∧ ds = none
  · obtain ⟨ns, rfl, rfl⟩ := hx
    have post : ∀ u H' l', Ret K T l H l' H' (some (begun ns)) → Dt K l' u .dm → Q u H' := post
    cases da with
    | @cons v vs' _ _ dt dn =>
      cases dn
      have hst : L2.start N [v] = [some v, none, none] := by
        unfold L2.start
        rw [hN]
        rfl
      rw [hst]
      exact begun_read rt dt (fun u H' l' r d => post u H' l' r d) _
  · have e : f__law_begun xs ds = .no := by
      unfold f__law_begun
      split
      · exact absurd ⟨_, rfl, rfl⟩ hx
      · rfl
    rw [e] at post
    exact post.elim
end
end Lw

set_option Elab.async false
set_option linter.all false
set_option maxRecDepth 100000
set_option maxHeartbeats 4000000
/-! Lw: the head's hook and the end of a law. -/
namespace Lw
open PySem PySem.Spec PyProof.Rows L2

/-! ### the hook: as HandS's hookX; and sys.modules is a dict -/
def smB (g : Addr → Option Obj) : Bool := match g sysModules with
  | some ⟨_, _, .dict _ _, _⟩ => true
  | _ => false
def SmD (h : Heap) : Prop := ∃ o es ep, h.get? sysModules = some o ∧ o.data = .dict es ep
theorem smB_ok {h : Heap} (e : smB h.get? = true) : SmD h := by
  unfold smB at e
  split at e
  · rename_i c d es ep sl ho
    exact ⟨_, _, _, ho, rfl⟩
  · cases e
/-- no third party's class is about -/
def TpD (h : Heap) : Prop := ∃ o, h.get? cStatics = some o ∧ PySem.W.nsIn [(cStatics, o)] cStatics "thirdparty.any" = some none
def tpB (g : Addr → Option Obj) : Bool := match g cStatics with
  | some o => He.eqO (PySem.W.nsIn [(cStatics, o)] cStatics "thirdparty.any") (some none)
  | none => false
theorem tpB_ok {h : Heap} (e : tpB h.get? = true) : TpD h := by
  unfold tpB at e
  split at e
  · rename_i o ho
    exact ⟨o, ho, He.eqO_ok e⟩
  · cases e
def hookL (fa : List He.Fa) (fn : List He.DefD) (tf : List He.Defn) (ex : PySem.W.Frag → Bool) : PySem.W.Hook where
  α := He.AlX × Bool
  obs := fun s => (He.obsX 5 fa fn [] tf ex s.heap.get?, smB s.heap.get? && tpB s.heap.get?)
  val := fun w => (He.valX fn [] w, true)
  says := fun w h => (He.hookX 5 fa fn [] tf ex).says w h ∧ SmD h ∧ TpD h
  of := fun w s e => ⟨(He.hookX 5 fa fn [] tf ex).of w s (congrArg Prod.fst e), smB_ok (He.ba (congrArg Prod.snd e)).1, tpB_ok (He.ba (congrArg Prod.snd e)).2⟩
  keeps := fun w h h' ⟨a, ⟨o, es, ep, e, d⟩, o2, e2, t⟩ k => ⟨(He.hookX 5 fa fn [] tf ex).keeps w h h' a k, ⟨o, es, ep, k _ _ e, d⟩, o2, k _ _ e2, t⟩

/-! ### the law is called -/
/-- what is tracked at the start: sys.modules, the tables, the script -/
def endH (K : PySem.W.Frag) (om : Obj) (ts : List Addr) (a : Addr) (ol : Obj) (xs : List V) : Hp := fun b => if b = sysModules then some (.frz om (.own sysModules)) else if b ∈ ts then some (.tbl #[]) else if b = a ∧ K.lookup a = none then some (.frz ol (.lst xs)) else none
theorem law_call {P : Program} {w : World} {K : PySem.W.Frag} {mg mb : Str → Option Value} {k : Nat} {fa a : Addr} {cs : List (Addr × Addr)} {T : List (Addr × Str)} {fm : Fn} {s₁ : Shared} {vs : List Value} {ns : List Int} {ds' : Option DSt}
    (KX : K.In s₁.heap) (hns : s₁.heap.Ns mainGlobals mg) (hb : s₁.heap.Ns builtinsNs mb) (hbb : ∀ x : Str, x ≠ "__name__" → mb x = bootBuiltins x) (hlim : s₁.heap.NoLimit) (hg : s₁.gens = #[]) (sm : SmD s₁.heap) (tp : TpD s₁.heap) (smK : K.lookup sysModules = none)
    (hT : ∀ p ∈ cs, s₁.heap.get? p.2 = some { cls := .none, data := .fields #[] }) (nT : ∀ p ∈ cs, K.lookup p.2 = none) (C : ∀ p ∈ cs, PySem.W.CodeHd s₁.heap p.1 p.2) (hTT : ∀ p ∈ T, p.1 ∈ cs.map (·.2))
    (hbm : ∃ (bm : Addr) (ob : Obj), mg "__builtins__" = some (.ref bm) ∧ bm ≠ builtinsNs ∧ s₁.heap.get? bm = some ob ∧ ob.cls = .type "module" ∧ ob.dict = some builtinsNs ∧ ob.data = .plain)
    (ha : s₁.heap.get? a = some { cls := .type "list", data := .seq vs.toArray }) (hi : IntsAre vs ns) (hl : ns.length ≤ sizeLine) (hr : Room k callerA)
    (F : ∀ base : Heap, K.In base → base.Ns mainGlobals mg → NoTP base → (∀ p ∈ cs, LamX.TabB base mg p.1 p.2) → FnG P w K mg base T k fa 1 fm) (hm : fm [.scr ns] none = .ok (.bl true) ds') :
    codeAny (model P w) callerA (.call (.ref fa) ⟨[.ref a], []⟩) (fun r s' => r = .ok (.ret (.bool true)) ∧ OldK s₁.heap s'.heap ∧ s'.os = s₁.os ∧ AllBare s'.gens) s₁ := by
  have rv := vals_ints hi
  have lenV := hi.length
  obtain ⟨om, mes, mep, hom, hmd⟩ := sm
  have isT : ∀ b : Addr, b ∈ cs.map (·.2) → s₁.heap.get? b = some { cls := .none, data := .fields #[] } := fun b hb => by
    obtain ⟨p, hp, e⟩ := List.mem_map.mp hb
    rw [← e]
    exact hT p hp
  have memT : ∀ p ∈ cs, p.2 ∈ cs.map (·.2) := fun p hp => List.mem_map.mpr ⟨p, hp, rfl⟩
  have aT : a ∉ cs.map (·.2) := fun z => by
    have q := isT a z
    rw [ha] at q
    cases q
  have smT : sysModules ∉ cs.map (·.2) := fun z => by
    have q := isT _ z
    rw [hom] at q
    cases q
    cases hmd
  have smA : sysModules ≠ a := fun z => by
    rw [z, ha] at hom
    cases hom
    cases hmd
  -- what is tracked
  obtain ⟨H, hH⟩ : ∃ H : Hp, H = endH K om (cs.map (·.2)) a { cls := .type "list", data := .seq vs.toArray } (ns.map V.int) := ⟨_, rfl⟩
  have Hs : H sysModules = some (.frz om (.own sysModules)) := by
    rw [hH]
    exact if_pos rfl
  have Ht : ∀ b ∈ cs.map (·.2), H b = some (.tbl #[]) := fun b hb => by
    rw [hH]
    unfold endH
    rw [if_neg (fun (z : b = sysModules) => smT (z ▸ hb)), if_pos hb]
  have Ho : ∀ {b : Addr}, b ≠ sysModules → b ∉ cs.map (·.2) → b ≠ a → H b = none := fun {b} h1 h2 h3 => by
    rw [hH]
    unfold endH
    rw [if_neg h1, if_neg h2, if_neg (fun z => h3 z.1)]
  have Ha : K.lookup a = none → H a = some (.frz { cls := .type "list", data := .seq vs.toArray } (.lst (ns.map V.int))) := fun e => by
    rw [hH]
    unfold endH
    rw [if_neg (Ne.symm smA), if_neg aT, if_pos ⟨rfl, e⟩]
  have Hin : ∀ {b : Addr} {o : HO}, H b = some o → (b = sysModules ∧ o = .frz om (.own sysModules)) ∨ (b ∈ cs.map (·.2) ∧ o = .tbl #[]) ∨ (b = a ∧ K.lookup a = none ∧ o = .frz { cls := .type "list", data := .seq vs.toArray } (.lst (ns.map V.int))) := fun {b o} e => by
    by_cases h1 : b = sysModules
    · rw [h1, Hs] at e
      exact .inl ⟨h1, (Option.some.inj e).symm⟩
    · by_cases h2 : b ∈ cs.map (·.2)
      · rw [Ht b h2] at e
        exact .inr (.inl ⟨h2, (Option.some.inj e).symm⟩)
      · by_cases h3 : b = a
        · cases hk : K.lookup a with
          | none =>
            rw [h3, Ha hk] at e
            exact .inr (.inr ⟨h3, rfl, (Option.some.inj e).symm⟩)
          | some o' =>
            have : H b = none := by
              rw [hH]
              unfold endH
              rw [if_neg h1, if_neg h2, if_neg (fun z => by rw [hk] at z; cases z.2)]
            rw [this] at e
            cases e
        · rw [Ho h1 h2 h3] at e
          cases e
  have hok : HOk P w H s₁.heap := fun b o e => by
    rcases Hin e with ⟨rfl, rfl⟩ | ⟨hb, rfl⟩ | ⟨rfl, _, rfl⟩
    · exact ⟨hom, om, hom⟩
    · exact isT b hb
    · exact ⟨ha, by rw [List.length_map]; exact hl, vs, _, rv, ha⟩
  have hS : SqL K H a (ns.map V.int) := by
    cases hk : K.lookup a with
    | none => exact .inl (.inr ⟨_, Ha hk⟩)
    | some o =>
      have e := KX a o hk
      rw [ha] at e
      cases e
      exact .inr ⟨_, vs.toArray, _, hk, rfl, rfl, rfl, by rw [List.size_toArray, lenV]; exact hl, by simpa using rv⟩
  -- the ground
  have base_of : ∀ {b : Addr} {o : Obj}, s₁.heap.get? b = some o → H b = none → (hidT s₁.heap H).get? b = some o := fun e n => hidT_get e n
  have noD : ∀ {b : Addr} {o : Obj}, b ≠ sysModules → s₁.heap.get? b = some o → (∀ vs n, o.data ≠ .seq vs n) → o.data ≠ .fields #[] → H b = none := fun {b o} hs e h1 h2 => Ho hs (fun z => by
      rw [isT b z] at e
      cases e
      exact h2 rfl) (fun z => by
      rw [z, ha] at e
      cases e
      exact h1 _ _ rfl)
  have nsK : ∀ {b : Addr} {m : Str → Option Value}, b ≠ sysModules → s₁.heap.Ns b m → (hidT s₁.heap H).Ns b m := fun {b m} hs ⟨o, es, ep, e, d, r⟩ => ⟨o, es, ep, base_of e (noD hs e (fun vs n z => by rw [d] at z; cases z) (fun z => by rw [d] at z; cases z)), d, r⟩
  have hKb : K.In (hidT s₁.heap H) := fun b o e => base_of (KX b o e) (by
    cases q : H b with
    | none => rfl
    | some u =>
      rcases Hin q with ⟨h1, _⟩ | ⟨h1, _⟩ | ⟨h1, h2, _⟩
      · rw [h1, smK] at e
        cases e
      · obtain ⟨p, hp, ep⟩ := List.mem_map.mp h1
        rw [← ep, nT p hp] at e
        cases e
      · rw [h1, h2] at e
        cases e)
  have hgN := nsK (by decide) hns
  have hM : L2.Mod K mg (hidT s₁.heap H) := ⟨hKb, hgN, ⟨mb, nsK (by decide) hb, hbb⟩, let ⟨mc, h1, h2⟩ := hlim; ⟨mc, nsK (by decide) h1, h2⟩⟩
  have TB : ∀ p ∈ cs, LamX.TabB (hidT s₁.heap H) mg p.1 p.2 := fun p hp => by
    have hTp := hT p hp
    refine ⟨?_, ?_, fun z => ?_⟩
    · obtain ⟨o, us, file, tf, flags, tg, inF, text, tt, e1, r1, r2, r3, r⟩ := C p hp
      refine ⟨o, us, file, tf, flags, tg, inF, text, tt, base_of e1 (noD (fun z => ?_) e1 (fun vs n z => by rw [r2] at z; cases z) fun z => ?_), r1, r2, r3, r⟩
      · rw [z, hom] at e1
        cases e1
        rw [hmd] at r2
        cases r2
      · rw [r2] at z
        cases z
        simp at r3
    · obtain ⟨bm, ob, b1, b2, b3, b4, b5, b6⟩ := hbm
      have nG : bm ≠ mainGlobals := fun q => by
        obtain ⟨o, es, ep, e, hd, _⟩ := hns
        rw [q, e] at b3
        cases b3
        rw [hd] at b6
        cases b6
      have nP : bm ≠ p.2 := fun q => by
        rw [q, hTp] at b3
        cases b3
        cases b6
      refine ⟨bm, ob, b1, b2, nG, nP, base_of b3 (noD (fun z => ?_) b3 (fun vs n z => by rw [b6] at z; cases z) fun z => by rw [b6] at z; cases z), b4, b5, b6⟩
      rw [z, hom] at b3
      cases b3
      rw [hmd] at b6
      cases b6
    · obtain ⟨o, es, ep, e, hd, _⟩ := hns
      rw [z, hTp] at e
      cases e
      cases hd
  have e0 : Env0 P w K mg (hidT s₁.heap H) callerA [] s₁ H := ⟨rfl, hM, fun b o e => of_hidT e, Nat.le_of_eq (hidT_size _ _), trivial, fun b hb => absurd (show b ∈ ([] : List Addr) from hb) (by simp), hok, .of_eq hg⟩
  -- the promise
  have rt : Ret K T ⟨fun b => if b = a ∧ K.lookup a = none then H b else none, none, []⟩ H ⟨fun b => if b = a ∧ K.lookup a = none then H b else none, none, []⟩ H none := by
    refine ⟨Gr.refl _, fun b o e => ?_, fun _ _ e => .inl e, fun b z => by simp [mtL, wmL] at z, fun b o e => ?_, fun _ _ e _ _ => e, fun _ e => e, fun p hp => LamX.TabS.nil (Ht _ (hTT p hp)), .inl rfl, fun _ h => .inl h, trivial, rfl, om, Hs⟩
    · by_cases h : b = a ∧ K.lookup a = none
      · have e : (if b = a ∧ K.lookup a = none then H b else none) = some o := e
        rw [if_pos h] at e
        exact e
      · have e : (if b = a ∧ K.lookup a = none then H b else none) = some o := e
        rw [if_neg h] at e
        cases e
    · by_cases h : b = a ∧ K.lookup a = none
      · have e : (if b = a ∧ K.lookup a = none then H b else none) = some o := e
        rw [if_pos h, h.1, Ha h.2] at e
        cases e
        exact fun _ z => nomatch z
      · have e : (if b = a ∧ K.lookup a = none then H b else none) = some o := e
        rw [if_neg h] at e
        cases e
  have dS : Dt K ⟨fun b => if b = a ∧ K.lookup a = none then H b else none, none, []⟩ (.ref a) (.scr ns) := .scr (by
    rcases hS with (z | ⟨o, z⟩) | z
    · rcases Hin z with ⟨h1, h2⟩ | ⟨h1, h2⟩ | ⟨h1, h2, h3⟩
      · cases h2
      · cases h2
      · cases h3
    · refine .inl (.inr ⟨o, ?_⟩)
      rcases Hin z with ⟨h1, h2⟩ | ⟨h1, h2⟩ | ⟨h1, h2, h3⟩
      · cases h2
      · cases h2
      · show (if a = a ∧ K.lookup a = none then H a else none) = _
        rw [if_pos ⟨rfl, h2⟩]
        exact z
    · exact .inr z)
  have sp : spM K T 1 fm [.ref a] H (fun v _ => v = .bl true) E0 := by
    refine ⟨rfl, _, none, [.scr ns], rt, .cons dS .nil, ?_⟩
    rw [hm]
    intro v H' l' _ d
    cases d
    rfl
  have tpN : NoTP (hidT s₁.heap H) := by
    obtain ⟨o, e, t⟩ := tp
    refine ⟨[(cStatics, o)], fun b u q => ?_, t⟩
    have q : List.lookup b [(cStatics, o)] = some u := q
    simp only [List.lookup] at q
    split at q
    · rename_i hb
      cases q
      rw [beq_iff_eq.mp hb]
      have dct : ∃ es ep, o.data = .dict es ep := by
        unfold PySem.W.nsIn at t
        split at t
        · rename_i c d es ep sl ho
          have ho : List.lookup cStatics [(cStatics, o)] = some _ := ho
          simp only [List.lookup, beq_self_eq_true] at ho
          cases ho
          exact ⟨_, _, rfl⟩
        · cases t
      obtain ⟨es, ep, d⟩ := dct
      exact base_of e (noD (by decide) e (fun vs n z => by rw [d] at z; cases z) (fun z => by rw [d] at z; cases z))
    · cases q
  refine codeAny_mono ((F _ hKb hgN tpN TB) callerA [] s₁ H [.ref a] [.ref a] _ _ hr rfl e0 (.cons rfl .nil) sp) fun r s' h => ?_
  cases r with
  | error e =>
    obtain ⟨_, _, _, _, _, _, _, _, _, _, _, _, z⟩ := h
    exact z.elim
  | ok fl =>
    cases fl with
    | next => exact False.elim h
    | brk => exact False.elim h
    | cont => exact False.elim h
    | ret u =>
      obtain ⟨v, H', os, bare, un, hok', r', q⟩ := h
      have q' : v = .bl true := q
      subst q'
      obtain rfl : u = Value.bool true := r'
      have key : ∀ b o, b ∉ cs.map (·.2) → s₁.heap.get? b = some o → s'.heap.get? b = some o := fun b o nb e => by
        have frozen : ∀ {ob : Obj} {x : HO}, H b = some (.frz ob x) → s'.heap.get? b = some o := fun {ob x} z => by
          obtain ⟨e1, _⟩ := hok b _ z
          obtain ⟨e2, _⟩ := hok' b _ (un.frzs b ob _ z)
          rw [e] at e1
          cases e1
          exact e2
        cases q : H b with
        | none => exact un.keep b o e q (fun z => absurd (show b ∈ ([] : List Addr) from z) (by simp)) (by simp)
        | some u =>
          rcases Hin q with ⟨_, h2⟩ | ⟨h1, _⟩ | ⟨_, _, h2⟩
          · rw [h2] at q
            exact frozen q
          · exact absurd h1 nb
          · rw [h2] at q
            exact frozen q
      have grown : ∀ p ∈ cs, ∃ more : Array Value, s'.heap.get? p.2 = some { cls := .none, data := .fields more } := fun p hp => by
        obtain ⟨more, z⟩ := un.tbls p.2 #[] (Ht _ (memT p hp))
        exact ⟨_, hok' p.2 _ z⟩
      refine ⟨rfl, ⟨fun b o e => ?_, fun b o e => ?_⟩, os, bare⟩
      · by_cases hb : b ∈ cs.map (·.2)
        · obtain ⟨p, hp, ep⟩ := List.mem_map.mp hb
          obtain ⟨more, hm'⟩ := grown p hp
          rw [← ep] at e ⊢
          rw [hT p hp] at e
          cases e
          exact .inr (.inl ⟨((C p hp).tab (hT p hp)).isCodeTable, rfl, #[], more, rfl, by rw [Array.empty_append]; exact hm'⟩)
        · exact .inl (key b o hb e)
      · by_cases hb : b ∈ cs.map (·.2)
        · obtain ⟨p, hp, ep⟩ := List.mem_map.mp hb
          obtain ⟨more, hm'⟩ := grown p hp
          rw [← ep]
          exact ⟨_, hm'⟩
        · exact ⟨o, key b o hb e⟩
end Lw

set_option Elab.async false
set_option linter.all false
set_option maxRecDepth 100000
set_option maxHeartbeats 4000000
/-! Lw: what the head's end is asked of an exception's class. -/
namespace Lw
open PySem PySem.Spec PyProof.Rows L2
open He (ba)

/-- __init__(self): super().__init__(text) -/
def ini0B (fd : FuncData) : Bool := match fd.params, fd.body with
  | ⟨[], [⟨s, none, _⟩], none, [], [], none, []⟩, .stmts [.Expr (.Call (.Attribute (.Call (.Name su _) [] [] _) ii q3) [.Constant (.str _) _ _] [] q5) _] =>
    decide (s = "self") && (decide (su = "super") && (decide (ii = "__init__") && (q3.endLine == q5.line)))
  | _, _ => false
def ini1B (f : Str) (fd : FuncData) : Bool := match fd.params, fd.body with
  | ⟨[], [⟨s, none, _⟩, ⟨g, none, _⟩], none, [], [], none, []⟩, .stmts [.Expr (.Call (.Attribute (.Call (.Name su _) [] [] _) ii q3) [.Constant (.str _) _ _] [] q5) _, .Assign [.Attribute (.Name s2 _) f2 _] (.Name f3 _) _] =>
    decide (s = "self") && (decide (g = f) && (decide (su = "super") && (decide (ii = "__init__") && (decide (s2 = "self") && (decide (f2 = f) && (decide (f3 = f) && (q3.endLine == q5.line)))))))
  | _, _ => false
theorem ini0_ok {fd : FuncData} (h : ini0B fd = true) : ∃ p1 tx j q1 q2 q3 q4 q5 q6, fd.params = iA0 p1 ∧ fd.body = .stmts [iS0 tx j q1 q2 q3 q4 q5 q6] ∧ (q3.endLine == q5.line) = true := by
  unfold ini0B at h
  split at h
  · rename_i e1 e2
    obtain ⟨h1, h⟩ := ba h
    obtain ⟨h2, h⟩ := ba h
    obtain ⟨h3, h4⟩ := ba h
    have h1 := of_decide_eq_true h1
    have h2 := of_decide_eq_true h2
    have h3 := of_decide_eq_true h3
    subst h1 h2 h3
    exact ⟨_, _, _, _, _, _, _, _, _, e1, e2, h4⟩
  · cases h
theorem ini1_ok {f : Str} {fd : FuncData} (h : ini1B f fd = true) : ∃ p1 p2 tx j q1 q2 q3 q4 q5 q6 r1 r2 r3 r4, fd.params = iA1 f p1 p2 ∧ fd.body = .stmts [iS0 tx j q1 q2 q3 q4 q5 q6, iS1 f r1 r2 r3 r4] ∧ (q3.endLine == q5.line) = true := by
  unfold ini1B at h
  split at h
  · rename_i e1 e2
    obtain ⟨h1, h⟩ := ba h
    obtain ⟨h2, h⟩ := ba h
    obtain ⟨h3, h⟩ := ba h
    obtain ⟨h4, h⟩ := ba h
    obtain ⟨h5, h⟩ := ba h
    obtain ⟨h6, h⟩ := ba h
    obtain ⟨h7, h8⟩ := ba h
    have h1 := of_decide_eq_true h1
    have h2 := of_decide_eq_true h2
    have h3 := of_decide_eq_true h3
    have h4 := of_decide_eq_true h4
    have h5 := of_decide_eq_true h5
    have h6 := of_decide_eq_true h6
    have h7 := of_decide_eq_true h7
    subst h1 h2 h3 h4 h5 h6 h7
    exact ⟨_, _, _, _, _, _, _, _, _, _, _, _, _, _, e1, e2, h8⟩
  · cases h
def eqV (a b : Option Value) : Bool := decide (a = b)
def eqB (a b : Option Bool) : Bool := decide (a = b)
/-- the name f of the scope is of the kind k -/
def nmB (s : Scope) (f : Str) (k : NameKind) : Bool := decide (s.names.lookup f = some k)
def cellB (K : PySem.W.Frag) (cc C : Addr) : Bool := match K.lookup cc with
  | some ⟨_, _, .cell (some (.ref D)), _⟩ => D == C
  | _ => false
def fileB (K : PySem.W.Frag) (file : Str) (cda : Addr) : Bool := match K.lookup cda with
  | some ⟨_, _, .fields vs, _⟩ => (match (vs[2]? : Option Value) with
    | some (.str fl _) => file == fl
    | _ => false)
  | _ => false
/-- all but __init__'s text -/
def exK1 (K : PySem.W.Frag) (file : Str) (C fI : Addr) (fd : FuncData) (cc cda : Addr) (B newId initId : String) (bmB : List Value) : Bool :=
  PySem.W.excInitIn K C bmB newId && (PySem.W.excOver K C bmB && (PySem.W.hasDictIn K C && (He.eqO (PySem.W.findIn K (.ref C) "__setattr__") (some (some (.builtin "object.__setattr__"))) && (eqV (PySem.W.typeIn K (.ref fI)) (some (.type "function")) && (PySem.W.keepIn K (.ref C) && (eqB (PySem.W.subIn K (.ref C) (.type "BaseException")) (some true) && (eqB (PySem.W.subIn K (.ref C) (.type B)) (some true) && (eqV (PySem.W.typeIn K (.ref C)) (some (.type "type")) && (eqB (PySem.W.mroIn K C (.ref C)) (some true) && (He.eqO (PySem.W.ks_superIn K C C "__init__") (some (some (.builtin initId))) && ((He.eqO (PySem.W.nsIn K mainGlobals "super") (some none) && (cellB K cc C && (fileB K file cda && (PySem.W.codeIn K (.ref cda) fd.qualname && (nmB fd.scope "super" .globalImplicit && (nmB fd.scope "__class__" .free && (nmB fd.scope "self" .local && (decide (fd.scope.kind = .function) && (!fd.scope.isCoroutine && (!fd.scope.isGenerator && fd.scope.names.all (fun x => x.2 != .cell))))))))))))))))))))))
def iniB (K : PySem.W.Frag) (c : String) (fd : FuncData) : Bool := match fldOf c with
  | none => ini0B fd
  | some f => decide (Str.ofString f ∈ fNames) && (nmB fd.scope (Str.ofString f) .local && (He.eqO (PySem.W.takerIn K (cAd K c) (Str.ofString f)) (some none) && ini1B (Str.ofString f) fd))
def exF (K : PySem.W.Frag) (file : Str) (c : String) (B newId initId : String) (bmB : List Value) (fI : Addr) (fd : FuncData) : Bool := match fd.closure, fd.code with
  | [(x, cc)], .ref cda => decide (x = "__class__") && (decide (fd.globals = mainGlobals) && (decide (fd.builtins = builtinsNs) && (decide (fd.defaults = .none) && (exK1 K file (cAd K c) fI fd cc cda B newId initId bmB && iniB K c fd))))
  | _, _ => false
def exB (K : PySem.W.Frag) (file : Str) (c : String) (B newId initId : String) (bmB : List Value) : Bool := match PySem.W.findIn K (.ref (cAd K c)) "__init__" with
  | some (some (.ref fI)) => (match K.lookup fI with
    | some ⟨_, _, .func fd, _⟩ => exF K file c B newId initId bmB fI fd
    | _ => false)
  | _ => false
theorem fd_ks {fd : FuncData} {cc cda : Addr} {ps : Arguments} {b : List Stmt} (h1 : fd.closure = [(("__class__" : Str), cc)]) (h2 : fd.code = .ref cda) (h3 : fd.globals = mainGlobals) (h4 : fd.builtins = builtinsNs) (h5 : fd.defaults = .none) (h6 : fd.params = ps) (h7 : fd.body = .stmts b) :
    fd = PySem.W.ksFn fd.name fd.qualname ps b fd.scope .none fd.kwdefaults fd.doc fd.pyModule fd.annotations (.ref cda) fd.closureTuple cc := by
  show fd = FuncData.mk fd.name fd.qualname ps (.stmts b) fd.scope mainGlobals [(("__class__" : Str), cc)] .none fd.kwdefaults fd.doc fd.pyModule fd.annotations (.ref cda) fd.closureTuple builtinsNs
  rw [← h1, ← h2, ← h3, ← h4, ← h5, ← h6, ← h7]
theorem exB_ok {P : Program} {K : PySem.W.Frag} {mg : Str → Option Value} {file : Str} {c : String} {B newId initId : String} {bmB : List Value} (b : ExB B newId initId bmB) (hf : P.main.file = file) (top : (P.main.scope.names.lookup ("super" : Str)).isSome = false) (hm : mg (Str.ofString c) = some (.ref (cAd K c)))
    (h : exB K file c B newId initId bmB = true) : HasEx P K mg c := by
  unfold exB at h
  split at h
  · rename_i fI hfi
    split at h
    · rename_i oc od fd osl hl
      unfold exF at h
      split at h
      · rename_i x cc cda hc1 hc2
        obtain ⟨a1, h⟩ := ba h
        obtain ⟨a2, h⟩ := ba h
        obtain ⟨a3, h⟩ := ba h
        obtain ⟨a4, h⟩ := ba h
        obtain ⟨hk, hini⟩ := ba h
        have a1 := of_decide_eq_true a1
        have a2 := of_decide_eq_true a2
        have a3 := of_decide_eq_true a3
        have a4 := of_decide_eq_true a4
        unfold exK1 at hk
        obtain ⟨k1, hk⟩ := ba hk
        obtain ⟨k2, hk⟩ := ba hk
        obtain ⟨k3, hk⟩ := ba hk
        obtain ⟨k4, hk⟩ := ba hk
        obtain ⟨k5, hk⟩ := ba hk
        obtain ⟨k6, hk⟩ := ba hk
        obtain ⟨k7, hk⟩ := ba hk
        obtain ⟨k8, hk⟩ := ba hk
        obtain ⟨k9, hk⟩ := ba hk
        obtain ⟨k10, hk⟩ := ba hk
        obtain ⟨k11, hk⟩ := ba hk
        obtain ⟨k13, hk⟩ := ba hk
        obtain ⟨k14, hk⟩ := ba hk
        obtain ⟨k15, hk⟩ := ba hk
        obtain ⟨k16, hk⟩ := ba hk
        obtain ⟨k17, hk⟩ := ba hk
        obtain ⟨k18, hk⟩ := ba hk
        obtain ⟨k19, hk⟩ := ba hk
        obtain ⟨k20, hk⟩ := ba hk
        obtain ⟨k21, hk⟩ := ba hk
        obtain ⟨k22, k23⟩ := ba hk
        have cell : ∃ cl cld csl, K.lookup cc = some ⟨cl, cld, .cell (some (.ref (cAd K c))), csl⟩ := by
          unfold cellB at k14
          split at k14
          · rename_i q1 q2 D q3 ho
            have := beq_iff_eq.mp k14
            subst this
            exact ⟨_, _, _, ho⟩
          · cases k14
        have code : ∃ ccl cdd vs ccs fl tf, K.lookup cda = some ⟨ccl, cdd, .fields vs, ccs⟩ ∧ vs[2]? = some (.str fl tf) ∧ ((P.main.file : Str) == fl) = true := by
          unfold fileB at k15
          split at k15
          · rename_i q1 q2 vs q3 ho
            split at k15
            · rename_i fl tf hv
              exact ⟨_, _, _, _, _, _, ho, hv, by rw [hf]; exact k15⟩
            · cases k15
          · cases k15
        refine ⟨hm, fI, cc, cda, B, newId, initId, bmB, fd.qualname, fd.scope, ⟨b, k1, k2, k3, He.eqO_ok k4, hfi, of_decide_eq_true k5, k6, of_decide_eq_true k7, of_decide_eq_true k8, of_decide_eq_true k9, of_decide_eq_true k10, He.eqO_ok k11, He.eqO_ok k13, cell, code, k16, top, of_decide_eq_true k17, of_decide_eq_true k18, of_decide_eq_true k19, of_decide_eq_true k20, by simpa using k21, by simpa using k22, k23⟩, ?_⟩
        subst a1
        unfold iniB at hini
        split at hini
        · rename_i e
          try rw [e]
          obtain ⟨p1, tx, j, q1, q2, q3, q4, q5, q6, e1, e2, e3⟩ := ini0_ok hini
          rw [fd_ks hc1 hc2 a2 a3 a4 e1 e2] at hl
          exact ⟨_, _, _, _, _, _, _, _, _, _, _, _, _, _, _, _, _, _, hl, e3⟩
        · rename_i f e
          try rw [e]
          obtain ⟨h1, g1⟩ := ba hini
          obtain ⟨h2, g2⟩ := ba g1
          obtain ⟨h3, g3⟩ := ba g2
          obtain ⟨p1, p2, tx, j, q1, q2, q3, q4, q5, q6, r1, r2, r3, r4, e1, e2, e3⟩ := ini1_ok g3
          rw [fd_ks hc1 hc2 a2 a3 a4 e1 e2] at hl
          exact ⟨of_decide_eq_true h1, of_decide_eq_true h2, He.eqO_ok h3, _, _, _, _, _, _, _, _, _, _, _, _, _, _, _, _, _, _, _, _, _, _, _, hl, e3⟩
      · cases h
    · cases h
  · cases h
/-! ### its instances looked at -/
def exAB (K : PySem.W.Frag) (c : String) : Bool :=
  (PySem.W.clsIn K (cAd K c)).isSome && (PySem.W.hasDictIn K (cAd K c) && (He.eqO (PySem.W.findIn K (.ref (cAd K c)) "__getattribute__") (some (some (.builtin "BaseException.__getattribute__"))) && (He.eqO (PySem.W.findIn K (.ref (cAd K c)) "__getattr__") (some none) &&
  (eqB (PySem.W.subIn K (.ref (cAd K c)) (.type "BaseException")) (some true) && (He.eqO (PySem.W.findIn K (.ref (cAd K c)) "__class__") (some (some (.builtin "object.__class__"))) && (He.eqO (PySem.W.specialIn K (.builtin "object.__class__") "__get__") (some (some (.builtin "getset_descriptor.__get__"))) &&
  (eqB (PySem.W.takesIn K (.builtin "object.__class__")) (some true) && (eqB (PySem.W.mroIn K (cAd K c) (.type "object")) (some true) && (match fldOf c with
    | none => true
    | some f => He.eqO (PySem.W.findIn K (.ref (cAd K c)) (Str.ofString f)) (some none))))))))))
theorem exA_ok {K : PySem.W.Frag} {c : String} (h : exAB K c = true) : ExA K c := by
  unfold exAB at h
  obtain ⟨h1, h⟩ := ba h
  obtain ⟨h2, h⟩ := ba h
  obtain ⟨h3, h⟩ := ba h
  obtain ⟨h4, h⟩ := ba h
  obtain ⟨h5, h⟩ := ba h
  obtain ⟨h6, h⟩ := ba h
  obtain ⟨h7, h⟩ := ba h
  obtain ⟨h8, h⟩ := ba h
  obtain ⟨h9, h⟩ := ba h
  refine ⟨h1, h2, He.eqO_ok h3, He.eqO_ok h4, of_decide_eq_true h5, He.eqO_ok h6, He.eqO_ok h7, of_decide_eq_true h8, of_decide_eq_true h9, fun f e => ?_⟩
  rw [e] at h
  exact He.eqO_ok h
theorem isNone_eq {α : Type} {o : Option α} (h : o.isNone = true) : o = none := by
  cases o with
  | none => rfl
  | some a => cases h
end Lw

set_option Elab.async false
set_option linter.all false
set_option maxRecDepth 100000
set_option maxHeartbeats 4000000
/-! Lw: plain lemmas: what repr shows is short; equality of texts; one statement after another. -/
namespace Lw
open PySem

theorem strOk_append {x y : Str} (hx : PyData.strOk x = true) (hy : PyData.strOk y = true) : PyData.strOk (x ++ y) = true := by
  unfold PyData.strOk at *
  show (x.cps ++ y.cps).all _ = true
  rw [Array.all_append, hx, hy]
  rfl
theorem strOk_join {sep : Str} (hs : PyData.strOk sep = true) : ∀ {ts : List Str}, (∀ t ∈ ts, PyData.strOk t = true) → PyData.strOk (Str.join sep ts) = true
  | [], _ => by
    show PyData.strOk Str.empty = true
    decide +kernel
  | [x], h => h x (List.mem_cons_self ..)
  | x :: y :: r, h => by
    show PyData.strOk (x ++ sep ++ Str.join sep (y :: r)) = true
    exact strOk_append (strOk_append (h x (List.mem_cons_self ..)) hs) (strOk_join hs fun t ht => h t (List.mem_cons_of_mem _ ht))
theorem strOk_ofString (s : String) : PyData.strOk (Str.ofString s) = true := by
  rw [Str.ofString_eq_toList]
  unfold PyData.strOk
  simp only [List.all_toArray, List.all_map, List.all_eq_true, Function.comp, decide_eq_true_eq]
  intro c _
  have := c.valid
  have h : c.toNat < 0xd800 ∨ (0xdfff < c.toNat ∧ c.toNat < 0x110000) := c.valid
  omega
theorem join_len : ∀ {ts : List Str} {w : Nat}, (∀ t ∈ ts, t.length ≤ w) → (Str.join ", " ts).length ≤ ts.length * (w + 2)
  | [], _, _ => Nat.zero_le _
  | [x], w, h => by
    have := h x (List.mem_cons_self ..)
    show x.length ≤ 1 * (w + 2)
    omega
  | x :: y :: r, w, h => by
    have h1 := h x (List.mem_cons_self ..)
    have h2 := join_len (ts := y :: r) (w := w) fun t ht => h t (List.mem_cons_of_mem _ ht)
    show (x ++ ", " ++ Str.join ", " (y :: r)).length ≤ _
    have e2 : ((", " : String) : Str).length = 2 := rfl
    rw [strLen_append, strLen_append, e2]
    have : (x :: y :: r).length * (w + 2) = (y :: r).length * (w + 2) + (w + 2) := by
      rw [List.length_cons, Nat.succ_mul]
    omega

structure Shw (dp w : Nat) (d : D) : Prop where
  sh : shows d = true
  sb : (toP d).showable = true
  dp : (toP d).depth ≤ dp
  len : (toP d).shown.length ≤ w
  ok : PyData.strOk (toP d).shown = true
theorem Shw.mono {d : D} {p q v w : Nat} (h : Shw p v d) (hp : p ≤ q) (hw : v ≤ w) : Shw q w d := ⟨h.sh, h.sb, Nat.le_trans h.dp hp, Nat.le_trans h.len hw, h.ok⟩
theorem Shw.non {p w : Nat} (h : 4 ≤ w) : Shw p w .non := ⟨rfl, rfl, Nat.zero_le _, by
  show (PyData.none).shown.length ≤ w
  rw [PyData.shown_none]
  exact h, by
  show PyData.strOk (PyData.none).shown = true
  rw [PyData.shown_none]
  decide +kernel⟩
theorem Shw.bl {p w : Nat} (b : Bool) (h : 5 ≤ w) : Shw p w (.bl b) := ⟨rfl, rfl, Nat.zero_le _, by
  show (PyData.bool b).shown.length ≤ w
  rw [PyData.shown_bool]
  refine Nat.le_trans ?_ h
  cases b <;> decide, by
  show PyData.strOk (PyData.bool b).shown = true
  rw [PyData.shown_bool]
  cases b <;> decide +kernel⟩
theorem Shw.int {p w : Nat} {i : Int} (h : i.natAbs.log2 < 200) (hw : 201 ≤ w) : Shw p w (.int i) := ⟨rfl, by
  show decide (i.natAbs.log2 < 1920) = true
  exact decide_eq_true (by omega), Nat.zero_le _, by
  show (PyData.int i).shown.length ≤ w
  rw [PyData.shown_int, ofString_length]
  exact Nat.le_trans (int_text_length_le (by decide) h) hw, by
  show PyData.strOk (PyData.int i).shown = true
  rw [PyData.shown_int]
  exact strOk_ofString _⟩
theorem log_lt {i : Int} {k : Nat} (hk : 0 < k) (h1 : -(2 ^ k : Int) < i) (h2 : i < (2 ^ k : Int)) : i.natAbs.log2 < k := by
  have h : i.natAbs < 2 ^ k := by
    have e : ((2 ^ k : Nat) : Int) = (2 ^ k : Int) := by simp
    omega
  by_cases h0 : i.natAbs = 0
  · rw [h0]
    simpa using hk
  · exact (Nat.log2_lt h0).mpr h
theorem Shw.i64 {p w : Nat} {i : Int} (h1 : -18446744073709551616 < i) (h2 : i < 18446744073709551616) (hw : 201 ≤ w) : Shw p w (.int i) :=
  Shw.int (Nat.lt_trans (log_lt (k := 64) (by decide) (by omega) (by omega)) (by decide)) hw
theorem Shw.str {p w : Nat} {x : Str} (h1 : (reprText x).length ≤ w) (h2 : PyData.strOk (reprText x) = true) : Shw p w (.str x) := ⟨rfl, rfl, Nat.zero_le _, by
  show (PyData.str x).shown.length ≤ w
  rw [PyData.shown_str]
  exact h1, by
  show PyData.strOk (PyData.str x).shown = true
  rw [PyData.shown_str]
  exact h2⟩
theorem all_sh : ∀ {xs : List D}, (∀ x ∈ xs, shows x = true) → showsAll xs = true
  | [], _ => rfl
  | x :: xs, h => by
    unfold showsAll
    rw [h x (List.mem_cons_self ..), all_sh fun y hy => h y (List.mem_cons_of_mem _ hy)]
    rfl
theorem all_sb : ∀ {xs : List D}, (∀ x ∈ xs, (toP x).showable = true) → PyData.showableAll (toPs xs) = true
  | [], _ => by
    unfold toPs PyData.showableAll
    rfl
  | x :: xs, h => by
    unfold toPs PyData.showableAll
    rw [h x (List.mem_cons_self ..), all_sb fun y hy => h y (List.mem_cons_of_mem _ hy)]
    rfl
theorem all_dp {p : Nat} : ∀ {xs : List D}, (∀ x ∈ xs, (toP x).depth ≤ p) → PyData.depthAll (toPs xs) ≤ p
  | [], _ => by
    unfold toPs PyData.depthAll
    exact Nat.zero_le _
  | x :: xs, h => by
    unfold toPs PyData.depthAll
    exact Nat.max_le.mpr ⟨h x (List.mem_cons_self ..), all_dp fun y hy => h y (List.mem_cons_of_mem _ hy)⟩
theorem mem_shown {t : Str} : ∀ {xs : List D}, t ∈ PyData.shownAll (toPs xs) → ∃ x ∈ xs, t = (toP x).shown
  | [], h => by
    unfold toPs at h
    rw [PyData.shownAll_nil] at h
    cases h
  | x :: xs, h => by
    unfold toPs at h
    rw [PyData.shownAll_cons] at h
    rcases List.mem_cons.mp h with h | h
    · exact ⟨x, List.mem_cons_self .., h⟩
    · obtain ⟨y, hy, e⟩ := mem_shown h
      exact ⟨y, List.mem_cons_of_mem _ hy, e⟩
theorem toPs_len : ∀ xs : List D, (toPs xs).length = xs.length
  | [] => by
    unfold toPs
    rfl
  | x :: xs => by
    unfold toPs
    rw [List.length_cons, List.length_cons, toPs_len xs]
theorem Shw.lst {p w v : Nat} {xs : List D} (h : ∀ x ∈ xs, Shw p v x) (hw : xs.length * (v + 2) + 2 ≤ w) : Shw (p + 1) w (.lst xs) := by
  refine ⟨by unfold shows; exact all_sh fun x hx => (h x hx).sh, ?_, ?_, ?_, ?_⟩
  · unfold toP PyData.showable
    exact all_sb fun x hx => (h x hx).sb
  · unfold toP PyData.depth
    exact Nat.succ_le_succ (all_dp fun x hx => (h x hx).dp)
  · unfold toP
    rw [PyData.shown_list, strLen_append, strLen_append]
    have e1 : (("[" : String) : Str).length = 1 := rfl
    have e2 : (("]" : String) : Str).length = 1 := rfl
    rw [e1, e2]
    have := join_len (ts := PyData.shownAll (toPs xs)) (w := v) fun t ht => by
      obtain ⟨x, hx, e⟩ := mem_shown ht
      rw [e]
      exact (h x hx).len
    rw [PyData.shownAll_length, toPs_len] at this
    omega
  · unfold toP
    rw [PyData.shown_list]
    refine strOk_append (strOk_append (by decide +kernel) (strOk_join (by decide +kernel) fun t ht => ?_)) (by decide +kernel)
    obtain ⟨x, hx, e⟩ := mem_shown ht
    rw [e]
    exact (h x hx).ok
theorem Shw.tup {p w v : Nat} {xs : List D} (h : ∀ x ∈ xs, Shw p v x) (hw : xs.length * (v + 2) + 3 ≤ w) : Shw (p + 1) w (.tup xs) := by
  refine ⟨by unfold shows; exact all_sh fun x hx => (h x hx).sh, ?_, ?_, ?_, ?_⟩
  · unfold toP PyData.showable
    exact all_sb fun x hx => (h x hx).sb
  · unfold toP PyData.depth
    exact Nat.succ_le_succ (all_dp fun x hx => (h x hx).dp)
  · unfold toP
    rw [PyData.shown_tuple, strLen_append, strLen_append]
    have e1 : (("(" : String) : Str).length = 1 := rfl
    have e2 : (((if (toPs xs).length == 1 then ",)" else ")" : String)) : Str).length ≤ 2 := by
      split <;> decide
    rw [e1]
    have := join_len (ts := PyData.shownAll (toPs xs)) (w := v) fun t ht => by
      obtain ⟨x, hx, e⟩ := mem_shown ht
      rw [e]
      exact (h x hx).len
    rw [PyData.shownAll_length, toPs_len] at this
    omega
  · unfold toP
    rw [PyData.shown_tuple]
    refine strOk_append (strOk_append (by decide +kernel) (strOk_join (by decide +kernel) fun t ht => ?_)) (by split <;> decide +kernel)
    obtain ⟨x, hx, e⟩ := mem_shown ht
    rw [e]
    exact (h x hx).ok
/-- repr of a list or a tuple -/
theorem repr_ok {d : D} (r : isRef d = true) (h : Shw 50 line d) : dRepr [d] = some (.str (toP d).shown) := if_pos ⟨r, h.sh, h.sb, h.dp, h.len⟩
theorem eq_str {x y : Str} (hx : PyData.strOk x = true) (hy : PyData.strOk y = true) : dEq (.str x) (.str y) = some (.bl (x == y)) := by
  unfold dEq
  simp [plain, toP, SeqAt.shaped, PyData.canLay0, PyData.depth, hx, hy, PyData.eqv]
theorem ne_str {x y : Str} (hx : PyData.strOk x = true) (hy : PyData.strOk y = true) : dNe (.str x) (.str y) = some (.bl (!(x == y))) := by
  unfold dNe
  simp [plain, toP, SeqAt.shaped, PyData.canLay0, PyData.depth, hx, hy, PyData.eqv]
/-- repr(d) == repr(d) -/
theorem eq_repr {d : D} {x : Str} (h : PyData.strOk x = true) : dEq (.str x) (.str x) = some (.bl true) := by
  rw [eq_str h h]
  simp
theorem ne_repr {x : Str} (h : PyData.strOk x = true) : dNe (.str x) (.str x) = some (.bl false) := by
  rw [ne_str h h]
  simp

/-! ### one statement after another -/
theorem seq_ok {a b : M Fl} {s s' : S} (h : a s = .ok .nx s') : sSeq a b s = b s' := by
  unfold sSeq
  rw [bnd_ok h]
theorem seq_rt {a b : M Fl} {s s' : S} {d : D} (h : a s = .ok (.rt d) s') : sSeq a b s = .ok (.rt d) s' := by
  unfold sSeq
  rw [bnd_ok h]
  rfl
theorem seq_er {a b : M Fl} {s s' : S} {d : D} (h : a s = .er d s') : sSeq a b s = .er d s' := by
  unfold sSeq
  rw [bnd_er h]
theorem if_t {t : M Bool} {a b : M Fl} {s s' : S} (h : t s = .ok true s') : sIf t a b s = a s' := by
  unfold sIf
  rw [bnd_ok h]
  rfl
theorem if_f {t : M Bool} {a b : M Fl} {s s' : S} (h : t s = .ok false s') : sIf t a b s = b s' := by
  unfold sIf
  rw [bnd_ok h]
  rfl
theorem fn_rt {n k : Nat} {b : M Fl} {xs : List D} {ds : Option DSt} {d : D} {s : S} (hl : xs.length = k) (h : b ⟨start n xs, ds⟩ = .ok (.rt d) s) : fnOf n k b xs ds = .ok d s.ds := by
  unfold fnOf
  rw [if_pos hl, h]
theorem fn_nx {n k : Nat} {b : M Fl} {xs : List D} {ds : Option DSt} {s : S} (hl : xs.length = k) (h : b ⟨start n xs, ds⟩ = .ok .nx s) : fnOf n k b xs ds = .ok .non s.ds := by
  unfold fnOf
  rw [if_pos hl, h]
theorem fn_er {n k : Nat} {b : M Fl} {xs : List D} {ds : Option DSt} {d : D} {s : S} (hl : xs.length = k) (h : b ⟨start n xs, ds⟩ = .er d s) : fnOf n k b xs ds = .er d s.ds := by
  unfold fnOf
  rw [if_pos hl, h]
/-! ### loops -/
theorem forL_nx {g : Tg} {b : M Fl} {x : D} {xs : List D} {s0 s1 : S} (h : bnd (cl (g x)) (fun _ => b) s0 = .ok .nx s1) : forL g b (x :: xs) s0 = forL g b xs s1 := by
  show bnd (cl (g x)) (fun _ => bnd b _) s0 = _
  unfold bnd at h ⊢
  cases e : cl (g x) s0 with
  | no =>
    rw [e] at h
    cases h
  | er y s =>
    rw [e] at h
    cases h
  | ok u s =>
    rw [e] at h
    dsimp only at h ⊢
    rw [h]
theorem forL_er {g : Tg} {b : M Fl} {x : D} {xs : List D} {s0 s1 : S} {e : D} (h : bnd (cl (g x)) (fun _ => b) s0 = .er e s1) : forL g b (x :: xs) s0 = .er e s1 := by
  show bnd (cl (g x)) (fun _ => bnd b _) s0 = _
  unfold bnd at h ⊢
  cases e : cl (g x) s0 with
  | no =>
    rw [e] at h
    cases h
  | er y s =>
    rw [e] at h
    dsimp only at h ⊢
    exact h
  | ok u s =>
    rw [e] at h
    dsimp only at h ⊢
    rw [h]
theorem forL_rt {g : Tg} {b : M Fl} {x : D} {xs : List D} {s0 s1 : S} {d : D} (h : bnd (cl (g x)) (fun _ => b) s0 = .ok (.rt d) s1) : forL g b (x :: xs) s0 = .ok (.rt d) s1 := by
  show bnd (cl (g x)) (fun _ => bnd b _) s0 = _
  unfold bnd at h ⊢
  cases e : cl (g x) s0 with
  | no =>
    rw [e] at h
    cases h
  | er y s =>
    rw [e] at h
    cases h
  | ok u s =>
    rw [e] at h
    dsimp only at h ⊢
    rw [h]
    rfl
theorem forL_fold {β : Type} {g : Tg} {b : M Fl} {R : β → S → Prop} {f : β → D → β} : ∀ (xs : List D) (a : β) (s : S), R a s → (∀ x ∈ xs, ∀ a s, R a s → ∃ s', bnd (cl (g x)) (fun _ => b) s = .ok .nx s' ∧ R (f a x) s') → ∃ s', forL g b xs s = .ok .nx s' ∧ R (xs.foldl f a) s'
  | [], a, s, h, _ => ⟨s, rfl, h⟩
  | x :: xs, a, s, h, k => by
    obtain ⟨s1, e1, h1⟩ := k x (List.mem_cons_self ..) a s h
    obtain ⟨s2, e2, h2⟩ := forL_fold xs (f a x) s1 h1 fun y hy => k y (List.mem_cons_of_mem _ hy)
    exact ⟨s2, by rw [forL_nx e1]; exact e2, h2⟩
theorem forL_stop {g : Tg} {b : M Fl} {R R' : S → Prop} {e x : D} {ys : List D} (hx : ∀ s, R s → ∃ s', bnd (cl (g x)) (fun _ => b) s = .er e s' ∧ R' s') : ∀ (xs : List D) (s : S), R s → (∀ x ∈ xs, ∀ s, R s → ∃ s', bnd (cl (g x)) (fun _ => b) s = .ok .nx s' ∧ R s') → ∃ s', forL g b (xs ++ x :: ys) s = .er e s' ∧ R' s'
  | [], s, h, _ => by
    obtain ⟨s1, e1, h1⟩ := hx s h
    exact ⟨s1, forL_er e1, h1⟩
  | y :: xs, s, h, k => by
    obtain ⟨s1, e1, h1⟩ := k y (List.mem_cons_self ..) s h
    obtain ⟨s2, e2, h2⟩ := forL_stop hx xs s1 h1 fun z hz => k z (List.mem_cons_of_mem _ hz)
    exact ⟨s2, by rw [List.cons_append, forL_nx e1]; exact e2, h2⟩
theorem enumF_append : ∀ (xs ys : List D) (k : Nat), enumF k (xs ++ ys) = enumF k xs ++ enumF (k + xs.length) ys
  | [], ys, k => by simp [enumF]
  | x :: xs, ys, k => by
    simp only [List.cons_append, enumF, List.length_cons, enumF_append xs ys (k + 1)]
    rw [Nat.add_assoc, Nat.add_comm 1]
theorem enumF_mem {d : D} : ∀ {xs : List D} {k : Nat}, d ∈ enumF k xs → ∃ (n : Nat) (x : D), d = .pr [.int n, x] ∧ x ∈ xs
  | [], _, h => by cases h
  | x :: xs, k, h => by
    rcases List.mem_cons.mp h with h | h
    · exact ⟨k, x, h, List.mem_cons_self ..⟩
    · obtain ⟨n, y, e, hy⟩ := enumF_mem h
      exact ⟨n, y, e, List.mem_cons_of_mem _ hy⟩
end Lw

set_option Elab.async false
set_option linter.all false
set_option maxRecDepth 100000
set_option maxHeartbeats 4000000
/-! Lw: instances with slots: fields read, isinstance, methods called, made. -/
namespace Lw
open PySem PySem.Spec PyProof.Rows L2

/-- the class cn, its slots fs -/
structure ClO (K : PySem.W.Frag) (cn : String) (fs : List String) : Prop where
  sc : SlX.SCls K (cAd K cn)
  si : SlX.SIsi K (cAd K cn)
  sl : ∀ (i : Nat) (f : String), fs[i]? = some f → ∃ p, SlX.Slot1 K (cAd K cn) (Str.ofString f) p i
def ixF (f : String) : List String → Option Nat
  | [] => none
  | g :: gs => if f = g then some 0 else (ixF f gs).map (· + 1)
theorem ixF_get {f : String} : ∀ {gs : List String} {i : Nat}, ixF f gs = some i → gs[i]? = some f
  | [], _, h => by cases h
  | g :: gs, i, h => by
    unfold ixF at h
    split at h
    · rename_i e
      cases h
      rw [e]
      rfl
    · cases e : ixF f gs with
      | none =>
        rw [e] at h
        cases h
      | some j =>
        rw [e] at h
        cases h
        rw [List.getElem?_cons_succ]
        exact ixF_get e
def dSlot (cls : List (String × List String)) (f : String) : D → Option D
  | .obj c ds => (match cls.lookup c with
    | some fs => (match ixF f fs with
      | some i => ds[i]?
      | none => none)
    | none => none)
  | _ => none
theorem dSlot_some {cls : List (String × List String)} {f cn : String} {ds : List D} {z : D} (e : dSlot cls f (.obj cn ds) = some z) : ∃ fs i, cls.lookup cn = some fs ∧ ixF f fs = some i ∧ ds[i]? = some z := by
  unfold dSlot at e
  dsimp only at e
  split at e
  · rename_i fs q1
    split at e
    · rename_i i q2
      exact ⟨fs, i, q1, q2, e⟩
    · cases e
  · cases e
theorem lookup_mem {α : Type} {c : String} {x : α} : ∀ {l : List (String × α)}, l.lookup c = some x → (c, x) ∈ l
  | [], h => by cases h
  | (d, y) :: l, h => by
    have h2 : (match c == d with | true => some y | false => l.lookup c) = some x := h
    cases q : (c == d) with
    | true =>
      rw [q] at h2
      cases h2
      rw [beq_iff_eq.mp q]
      exact List.mem_cons_self ..
    | false =>
      rw [q] at h2
      exact List.mem_cons_of_mem _ (lookup_mem h2)
section
variable {X : Cx} {c : Pk} {W : WX} {K : PySem.W.Frag}
theorem obj_ref {l : Lh} {H : Hp} {v : V} {cn : String} {ds : List D} (r : Rv K l H v (.obj cn ds)) : ∃ a dx vs, v = .ref a ∧ l.L a = some (SlX.SlO a (cAd K cn) dx (vs.map some)) ∧ l.L dx = some (.xd []) ∧ DtAll K l vs ds := by
  rcases r with r | ⟨a, vs, ds', rfl, e, _⟩
  · cases r with
    | obj h1 h2 r => exact ⟨_, _, _, rfl, h1, h2, r⟩
  · cases e
/-- e.f, f a slot -/
theorem le_slot {cls : List (String × List String)} {f : String} {e : Expr} {o : Opd} {pos : Pos} (hA : ∀ p ∈ cls, ClO X.K p.1 p.2) (h : LO X c W e o) (hb : attributeBase e (Str.ofString f) X.env (eval e X.env) = eval e X.env := by rfl) : LE X c W (.Attribute e (Str.ofString f) pos) (m1 (dSlot cls f) o) := by
  refine ⟨fun pins s σ H Q I hh => ?_⟩
  obtain ⟨l, S, rp, po⟩ := hh
  have h0 : liftO X.K c W o σ H fun v H1 => ∃ l1 S1 d, Rep X.K c l1 S1 σ H1 ∧ Gr l l1 ∧ Rv X.K l1 H1 v d ∧ Po X.K c W l1 σ (Dt X.K) Q (opt (dSlot cls f d) S1) := by
    refine ⟨l, S, rp, Po.bind (R := RO X.K σ o) po fun y S1 v H1 l1 _ rp1 g1 q1 po1 => ?_⟩
    obtain ⟨d, rv, po2⟩ := Po.rd rp1 (Gr.refl _) q1 po1
    exact ⟨l1, S1, d, rp1, g1, rv, po2⟩
  refine attr_of hb (thn (h.run pins s σ H _ I h0) fun u s1 ⟨v, H1, I1, r1, l1, S1, d, rp1, g1, rv, po2⟩ => ?_)
  obtain ⟨z, ez, po3⟩ := Po.opt po2
  cases d with
  | obj cn ds =>
    obtain ⟨fs, i, q1, q2, q3⟩ := dSlot_some ez
    obtain ⟨a, dx, vs, rfl, ha, hdx, hds⟩ := obj_ref rv
    obtain rfl : u = Value.ref a := r1
    have C := hA (cn, fs) (lookup_mem q1)
    obtain ⟨p, T⟩ := C.sl i f (ixF_get q2)
    obtain ⟨v, hv, dv⟩ := hds.get q3
    exact SlX.getslot_ok I1 (.inr ⟨rp1.rt.lh _ _ ha, rp1.rt.lh _ _ hdx⟩) C.sc T (by rw [List.getElem?_map, hv]; rfl) fun u' s2 I2 ru => ⟨v, H1, I2, ru, po3 v H1 l1 rp1 (Gr.refl _) dv⟩
  | _ => cases ez
/-! ### isinstance(e, C), C a class with slots -/
def dIsC (cls : List String) (cn : String) : D → Option D
  | .obj c _ => if cls.contains c then some (.bl (c == cn)) else none
  | d => (tyD d).map fun _ => .bl false
def tyNames : List String := ["NoneType", "bool", "int", "str", "tuple", "list", "dict"]
theorem ty_mem {d : D} {a : String} (e : tyD d = some a) : a ∈ tyNames := by
  cases d <;> cases e <;> simp [tyNames]
theorem call_isiO {C : Addr} : CallR X (.builtin "isinstance") (fun xs H Q => rIsi X.K xs H Q ∨ SlX.rIsiSl X.K (.ref C) xs H Q) := fun pins s σ H xs us Q I r h => h.elim (fun h => call_isi pins s σ H xs us Q I r h) fun h => SlX.call_isiSl (.ref C) pins s σ H xs us Q I r h
theorem le_isO {cls : List String} {cn : String} {e : Expr} {o : Opd} {x : Str} {C : Addr} {p q pos : Pos} (hA : ∀ d ∈ cls, SlX.SCls X.K (cAd X.K d) ∧ SlX.SIsi X.K (cAd X.K d) ∧ PySem.W.kitOne X.K (.ref (cAd X.K d)) (.ref C) = some (d == cn)) (hB : ∀ t ∈ tyNames, PySem.W.kitOne X.K (.type t) (.ref C) = some false) (hm : X.mg "isinstance" = none) (hx : X.mg x = some (.ref C)) (h : LO X c W e o) (hg : Gl X "isinstance" := by rfl) (hgx : Gl X x := by rfl)
    (hd : (x == ("__debug__" : Str)) = false := by decide) (hs : starEach [e, .Name x q] X.env = (false, eval e X.env) :: starEach [.Name x q] X.env := by rfl) (hs2 : starEach [.Name x q] X.env = (false, eval (.Name x q) X.env) :: starEach [] X.env := by rfl)
    (hpl : (backTo pos (starEach [.Name x q] X.env)).any (·.1) = false := by rfl) : LE X c W (.Call (.Name "isinstance" p) [e, .Name x q] [] pos) (m1 (dIsC cls cn) o) :=
  PE.imp (pe_callB (call_isiO (C := C)) hg hm boot_isinstance (pa_cons h (pa_cons (pe_glob (v := .ref C) hgx hx rfl hd) pa_nil hs2) hs) (he := hs) (hpl := hpl)) fun σ H Q ⟨l, S, rp, po⟩ => by
    refine ⟨l, S, rp, Po.bind (R := RO X.K σ o) po fun y S1 v H1 l1 _ rp1 g1 q1 po1 => ?_⟩
    obtain ⟨d, rv, po2⟩ := Po.rd rp1 (Gr.refl _) q1 po1
    obtain ⟨z, ez, po3⟩ := Po.opt po2
    have other : ∀ a, tyD d = some a → z = .bl false → rIsi X.K [v, .ref C] H1 Q ∨ SlX.rIsiSl X.K (.ref C) [v, .ref C] H1 Q := fun a et e0 => by
      subst e0
      exact .inl ⟨v, .ref C, .type a, .ref C, false, rfl, .own C, tyX_of rp1.rt.lh rv et, hB a (ty_mem et), po3 _ H1 l1 rp1 (Gr.refl _) (.bl _)⟩
    cases d with
    | obj c' ds =>
      have ez : (if cls.contains c' then some (D.bl (c' == cn)) else none) = some z := ez
      by_cases hc : cls.contains c' = true
      · rw [if_pos hc] at ez
        cases ez
        obtain ⟨a, dx, vs, rfl, ha, hdx, hds⟩ := obj_ref rv
        obtain ⟨A1, A2, A3⟩ := hA c' (by simpa using hc)
        exact .inr ⟨a, _, dx, vs.map some, .ref C, (c' == cn), rfl, rfl, fun w r => r, .inr ⟨rp1.rt.lh _ _ ha, rp1.rt.lh _ _ hdx⟩, A1, A2, A3, po3 _ H1 l1 rp1 (Gr.refl _) (.bl _)⟩
      · rw [if_neg hc] at ez
        cases ez
    | non =>
      cases ez
      exact other _ rfl rfl
    | bl b =>
      cases ez
      exact other _ rfl rfl
    | int i =>
      cases ez
      exact other _ rfl rfl
    | str i =>
      cases ez
      exact other _ rfl rfl
    | tup i =>
      cases ez
      exact other _ rfl rfl
    | pr i => cases ez
    | cel i => cases ez
    | lst i =>
      cases ez
      exact other _ rfl rfl
    | dct i =>
      cases ez
      exact other _ rfl rfl
    | scr i =>
      cases ez
      exact other _ rfl rfl
    | exc a b => cases ez
    | dm => cases ez
end
/-! ### methods -/
structure MeM (P : Program) (w : World) (K : PySem.W.Frag) (mg : Str → Option Value) (base : Heap) (T : List (Addr × Str)) (k : Nat) (cn : String) (m : Str) (n : Nat) (fm : Fn) : Prop where
  ex : ∃ g, SlX.SCls K (cAd K cn) ∧ Meth K (cAd K cn) m g ∧ FnG P w K mg base T k g n fm
theorem MeM.cast {P : Program} {w : World} {K : PySem.W.Frag} {mg : Str → Option Value} {base : Heap} {T T' : List (Addr × Str)} {k : Nat} {cn : String} {m : Str} {n : Nat} {fm : Fn} (F : MeM P w K mg base T k cn m n fm) (e : T' = T) : MeM P w K mg base T' k cn m n fm := by
  subst e
  exact F
theorem MeM.mono {P : Program} {w : World} {K : PySem.W.Frag} {mg : Str → Option Value} {base : Heap} {T : List (Addr × Str)} {j k : Nat} {cn : String} {m : Str} {n : Nat} {fm : Fn} (F : MeM P w K mg base T j cn m n fm) (h : j ≤ k) : MeM P w K mg base T k cn m n fm := by
  obtain ⟨g, a, b, d⟩ := F.ex
  exact ⟨⟨g, a, b, d.mono h⟩⟩
def mMeth (alts : List (String × Fn)) (o : M D) (m : M (List D)) : M D := bnd o fun x => match x with
  | .obj c ds => (match alts.lookup c with
    | some f => bnd m fun xs => call f (.obj c ds :: xs)
    | none => stuck)
  | _ => stuck
section
variable {X : Cx} {c : Pk} {W : WX}
theorem meth_run {alts : List (String × Fn)} {k n : Nat} {m : Str} {mo : M D} {ma : M (List D)} {o : Expr} {σ : L2.St} {H : Hp} {Q : VK} (hA : ∀ p ∈ alts, MeM X.prog X.w X.K X.mg X.base c.T k p.1 m n p.2) (h : liftE X.K c W (mMeth alts mo ma) σ H Q) :
    liftE X.K c W mo σ H fun v H1 => ∃ a cn dx vs g fm ds l1 S1, v = .ref a ∧ SlX.Slt H1 a (cAd X.K cn) dx vs ∧ SlX.SCls X.K (cAd X.K cn) ∧ Meth X.K (cAd X.K cn) m g ∧ FnG X.prog X.w X.K X.mg X.base c.T k g n fm ∧ Rep X.K c l1 S1 σ H1 ∧ Dt X.K l1 (.ref a) (.obj cn ds) ∧ Po X.K c W l1 σ (Dt X.K) Q (bnd ma (fun xs => call fm (.obj cn ds :: xs)) S1) := by
  obtain ⟨l, S, rp, po⟩ := h
  refine ⟨l, S, rp, Po.bind (R := Dt X.K) po fun d S1 v H1 l1 _ rp1 g1 q1 po1 => ?_⟩
  cases d with
  | obj cn ds =>
    dsimp only at po1
    cases e : alts.lookup cn with
    | none =>
      rw [e] at po1
      exact po1.elim
    | some fm =>
      rw [e] at po1
      obtain ⟨g, F1, F2, F3⟩ := (hA (cn, fm) (lookup_mem e)).ex
      cases q1 with
      | @obj a dx _ vs _ h1 h2 r => exact ⟨a, cn, dx, vs.map some, g, fm, ds, l1, S1, rfl, .inr ⟨rp1.rt.lh _ _ h1, rp1.rt.lh _ _ h2⟩, F1, F2, F3, rp1, .obj h1 h2 r, po1⟩
  | _ => exact po1.elim
theorem call_post {fm : Fn} {n : Nat} {σ : L2.St} {H2 : Hp} {Q : VK} {S2 : S} {l2 : Lh} {x : D} {xs : List D} {v : V} {ws : List V} (rp2 : Rep X.K c l2 S2 σ H2) (dv : Dt X.K l2 v x) (da : DtAll X.K l2 ws xs) (hn : ws.length + 1 = n) (po : Po X.K c W l2 σ (Dt X.K) Q (call fm (x :: xs) S2)) : spM X.K c.T n fm (v :: ws) H2 Q (WE W σ) := by
  refine ⟨by rw [List.length_cons]; exact hn, l2, S2.ds, x :: xs, rp2.rt.self, .cons dv da, ?_⟩
  unfold call at po
  cases e : fm (x :: xs) S2.ds with
  | no =>
    rw [e] at po
    exact po
  | ok d ds' =>
    rw [e] at po
    intro v H' l' rt dt
    exact po v H' l' (rp2.on rt) rt.gr dt
  | er y ds' =>
    rw [e] at po
    intro cls dd H' l' rt fl
    exact po cls dd H' l' (rp2.on rt) rt.gr fl
/-- o.m(e, ..) -/
theorem le_meth {alts : List (String × Fn)} {k n : Nat} {m : Str} {mo : M D} {ma : M (List D)} {o e : Expr} {es : List Expr} {apos pos : Pos} {pl : Sem Bool} (hA : ∀ p ∈ alts, MeM X.prog X.w X.K X.mg X.base c.T k p.1 m n p.2) (hr : Room k X.A) (gd : X.A.guards = some []) (tk : Takes X W) (he : LE X c W o mo) (ha : LA X c W (e :: es) ma)
    (hn : (e :: es).length + 1 = n := by rfl) (hst : starEach (e :: es) X.env = (false, eval e X.env) :: starEach es X.env := by rfl) (hpl : (backTo pos (starEach es X.env)).any (·.1) = false := by rfl)
    (ht : eval (.Call (.Attribute o m apos) (e :: es) [] pos) X.env = (do
      let ov ← eval o X.env
      standAt apos.atName
      let (f, first) ← holding [ov] (getMethod ov m pl)
      callWith pos f first (backTo pos (starEach (e :: es) X.env)) (backToKw pos (keywordEach [] X.env))) := by rfl) : LE X c W (.Call (.Attribute o m apos) (e :: es) [] pos) (mMeth alts mo ma) := by
  refine ⟨fun pins s σ H Q I h => ?_⟩
  refine PySem.W.methodCall_KW (pl := pl) (thn (PE.run he pins s σ H _ I (meth_run (o := o) hA h)) fun u s1 ⟨x, H1, I1, rx, a, cn, dx, vs, g, fm, ds, l1, S1, ex, hsl, hc, hm, F, rp1, dt, po⟩ => ?_) ht
  subst ex
  obtain rfl : u = Value.ref a := rx
  refine SlX.getmethsl_ok I1 hsl hc hm ?_
  have h2 : liftA X.K c W (e :: es).length ma σ H1 fun ws H2 => spM X.K c.T n fm (.ref a :: ws) H2 Q (WE W σ) := by
    refine ⟨l1, S1, rp1, Po.bind po fun xs S2 ws H2 l2 _ rp2 g2 q2 po2 => ?_⟩
    exact call_post rp2 (dt.grow g2) q2.1 (by rw [q2.1.length, q2.2]; exact hn) po2
  refine PySem.W.callWith_K (first := [.ref a]) (h₀ := X.base) I.ok.mod.kin hm.kp (thn (PA.run ha pos pins s1 σ H1 _ I1 h2) fun us s2 ⟨ws, H2, I2, r, q2⟩ => ⟨I2.kIn, ?_⟩) hst hpl
  exact run_g (us := .ref a :: us) (vs := .ref a :: ws) F hr gd tk I2 (.cons rfl r) q2
/-- o.m() -/
theorem le_meth0 {alts : List (String × Fn)} {k : Nat} {m : Str} {mo : M D} {o : Expr} {apos pos : Pos} {pl : Sem Bool} (hA : ∀ p ∈ alts, MeM X.prog X.w X.K X.mg X.base c.T k p.1 m 1 p.2) (hr : Room k X.A) (gd : X.A.guards = some []) (tk : Takes X W) (he : LE X c W o mo)
    (ht : eval (.Call (.Attribute o m apos) [] [] pos) X.env = (do
      let ov ← eval o X.env
      standAt apos.atName
      let (f, first) ← holding [ov] (getMethod ov m pl)
      callWith pos f first (backTo pos (starEach [] X.env)) (backToKw pos (keywordEach [] X.env))) := by rfl) : LE X c W (.Call (.Attribute o m apos) [] [] pos) (mMeth alts mo aNil) := by
  refine ⟨fun pins s σ H Q I h => ?_⟩
  refine PySem.W.methodCall_KW (pl := pl) (thn (PE.run he pins s σ H _ I (meth_run (o := o) hA h)) fun u s1 ⟨x, H1, I1, rx, a, cn, dx, vs, g, fm, ds, l1, S1, ex, hsl, hc, hm, F, rp1, dt, po⟩ => ?_) ht
  subst ex
  obtain rfl : u = Value.ref a := rx
  refine SlX.getmethsl_ok I1 hsl hc hm ?_
  have q2 : spM X.K c.T 1 fm [.ref a] H1 Q (WE W σ) := call_post rp1 dt .nil rfl po
  exact PySem.W.callWith_K0 (first := [.ref a]) I1.kIn hm.kp (run_g (us := [.ref a]) (vs := [.ref a]) F hr gd tk I1 (.cons rfl .nil) q2)
end
end Lw

set_option Elab.async false
set_option linter.all false
set_option maxRecDepth 100000
set_option maxHeartbeats 4000000
/-! Lw: an instance with slots is made by its __init__. -/
namespace Lw
open PySem PySem.Spec PyProof.Rows L2

/-- no table, no code object, nothing frozen -/
def Pln (o : HO) : Prop := NoTbl o ∧ (∀ c q, o ≠ LamX.CodeO c q) ∧ ∀ ob u, o ≠ .frz ob u
theorem pln_ins {C dx : Addr} : Pln (.ins C dx []) := ⟨(fun _ z => nomatch z), (fun _ _ z => nomatch z), (fun _ _ z => nomatch z)⟩
theorem pln_own {x : Addr} : Pln (.own x) := ⟨(fun _ z => nomatch z), (fun _ _ z => nomatch z), (fun _ _ z => nomatch z)⟩
theorem pln_xd {m : List (Str × V)} : Pln (.xd m) := ⟨(fun _ z => nomatch z), (fun _ _ z => nomatch z), (fun _ _ z => nomatch z)⟩
/-- a heap of code objects alone -/
def codeHeap (n : Nat) (q : Str) : Heap := { objs := Array.replicate (n + 1) { cls := .none, data := .fields #[.none, .str q 0] } }
theorem codeHeap_at {n a : Nat} {q : Str} {o : Obj} (h : (codeHeap n q).get? a = some o) : o.data = .fields #[.none, .str q 0] := by
  unfold Heap.get? codeHeap at h
  dsimp only at h
  by_cases ha : a < n + 1
  · simp [Array.getElem?_replicate, ha] at h
    rw [← h]
  · simp [Array.getElem?_replicate, ha] at h
theorem codeHeap_self (n : Nat) (q : Str) : (codeHeap n q).get? n = some { cls := .none, data := .fields #[.none, .str q 0] } := by
  unfold Heap.get? codeHeap
  simp [Array.getElem?_replicate]
theorem slO_ne_code {a C dx c : Addr} {vs : List (Option V)} {q : Str} : SlX.SlO a C dx vs ≠ LamX.CodeO c q := fun e => by
  unfold SlX.SlO LamX.CodeO at e
  injection e with e
  have h2 : ∃ (oc : Obj) (vs : Array Value) (t : Tok), (codeHeap c q).get? c = some oc ∧ oc.data = .fields vs ∧ vs[1]? = some (.str q t) := ⟨_, _, 0, codeHeap_self c q, rfl, rfl⟩
  have h3 := congrFun e (codeHeap c q)
  rw [← h3] at h2
  obtain ⟨sl, h4, _⟩ := h2
  have := codeHeap_at h4
  cases this
theorem pln_sl {a C dx : Addr} {vs : List (Option V)} : Pln (SlX.SlO a C dx vs) := ⟨(fun _ z => nomatch z), (fun _ _ => slO_ne_code), (fun _ _ z => nomatch z)⟩

section
variable {K : PySem.W.Frag} {c : Pk} {l : Lh} {S : S} {σ : L2.St} {H : Hp}
/-- what a tracked object of the start is now -/
theorem Ret.still {T : List (Addr × Str)} {l l' : Lh} {H H' : Hp} {ds : Option DSt} (r : Ret K T l H l' H' ds) {x : Addr} {ox : HO} (h : H x = some ox) (p : Pln ox) (m : x ∉ mtL l) : H' x = some ox := r.fr x ox h m p.1
theorem Ret.noL {T : List (Addr × Str)} {l l' : Lh} {H H' : Hp} {ds : Option DSt} (r : Ret K T l H l' H' ds) {x : Addr} {ox : HO} (h : H x = some ox) (n : l.L x = none) : l'.L x = none := by
  cases e : l'.L x with
  | none => rfl
  | some o =>
    rcases r.nw x o e with z | z
    · rw [n] at z
      cases z
    · rw [h] at z
      cases z
theorem slH_x {H : Hp} {x C dx : Addr} {ws : List (Option V)} : SlX.slH H x C dx ws x = some (SlX.SlO x C dx ws) := upd_same
theorem slH_d {H : Hp} {x C dx : Addr} {ws : List (Option V)} (h : dx ≠ x) : SlX.slH H x C dx ws dx = some (.xd []) := by
  unfold SlX.slH
  rw [upd_ne h, upd_same]
theorem Rep.poke (r : Rep K c l S σ H) {x dx C : Addr} {ws : List (Option V)} {ox od : HO} (hne : dx ≠ x) (h1 : c.H0 x = some ox) (p1 : Pln ox) (h2 : c.H0 dx = some od) (p2 : Pln od) (l1 : c.l0.L x = none) (l2 : c.l0.L dx = none) (m1 : x ∉ mtL c.l0) (m2 : dx ∉ mtL c.l0) :
    Rep K { c with H0 := SlX.slH c.H0 x C dx ws } l S σ (SlX.slH H x C dx ws) := by
  have hx := r.rt.still h1 p1 m1
  have hd := r.rt.still h2 p2 m2
  have lx := r.rt.noL h1 l1
  have ld := r.rt.noL h2 l2
  have mx := r.rt.wm_in h1 m1
  have md := r.rt.wm_in h2 m2
  have off : ∀ {a : Addr} {G : Hp}, a ≠ x → a ≠ dx → SlX.slH G x C dx ws a = G a := fun a b => SlX.slH_ne a b
  have keep : ∀ a o, H a = some o → a ≠ x → a ≠ dx → SlX.slH H x C dx ws a = some o := fun a o e a1 a2 => by
    rw [off a1 a2]
    exact e
  refine ⟨⟨r.rt.gr, fun a o e => ?_, fun a o e => ?_, r.rt.ml, r.rt.nt, fun a o e n t => ?_, fun a e => ?_, ?_, ?_, fun a ha => ?_, ?_, r.rt.ce.step (Gr.refl _) rfl rfl fun a ha o e => keep a o e (fun q => mx (q ▸ List.mem_append_right _ ha)) (fun q => md (q ▸ List.mem_append_right _ ha)), ?_⟩, r.ln, r.sd, fun i xs e => ?_, r.di, r.sf⟩
  · exact keep a o (r.rt.lh a o e) (fun z => by rw [z, lx] at e; cases e) (fun z => by rw [z, ld] at e; cases e)
  · rcases r.rt.nw a o e with z | z
    · exact .inl z
    · refine .inr ?_
      show SlX.slH c.H0 x C dx ws a = none
      rw [off (fun q => by rw [q, lx] at e; cases e) (fun q => by rw [q, ld] at e; cases e)]
      exact z
  · have e : SlX.slH c.H0 x C dx ws a = some o := e
    by_cases q1 : a = x
    · rw [q1, slH_x] at e ⊢
      exact e
    · by_cases q2 : a = dx
      · rw [q2, slH_d hne] at e ⊢
        exact e
      · rw [off q1 q2] at e ⊢
        exact r.rt.fr a o e n t
  · have q1 : a ≠ x := fun z => by
      rw [z, slH_x] at e
      cases e
    have q2 : a ≠ dx := fun z => by
      rw [z, slH_d hne] at e
      cases e
    show SlX.slH c.H0 x C dx ws a = none
    rw [off q1 q2] at e ⊢
    exact r.rt.fd a e
  · refine tabs_step r.rt.tb fun a o e z => keep a o e (fun q => ?_) (fun q => ?_)
    · rw [q, hx] at e
      cases e
      rcases z with ⟨ps, z⟩ | ⟨c', q', z⟩
      · exact p1.1 ps z
      · exact p1.2.1 _ _ z
    · rw [q, hd] at e
      cases e
      rcases z with ⟨ps, z⟩ | ⟨c', q', z⟩
      · exact p2.1 ps z
      · exact p2.2.1 _ _ z
  · rcases r.rt.wk with z | ⟨z1, z2⟩
    · exact .inl z
    · refine .inr ⟨z1, fun a ha => ?_⟩
      show SlX.slH c.H0 x C dx ws a = none
      rw [off (fun q => mx (q ▸ List.mem_append_left _ ha)) (fun q => md (q ▸ List.mem_append_left _ ha))]
      exact z2 a ha
  · rcases r.rt.ck a ha with z | z
    · exact .inl z
    · refine .inr ?_
      show SlX.slH c.H0 x C dx ws a = none
      rw [off (fun q => mx (q ▸ List.mem_append_right _ ha)) (fun q => md (q ▸ List.mem_append_right _ ha))]
      exact z
  · exact r.rt.mr.step fun a ha o e => keep a o e (fun q => mx (q ▸ List.mem_append_left _ ha)) (fun q => md (q ▸ List.mem_append_left _ ha))
  · obtain ⟨ob, e⟩ := r.rt.sm
    refine ⟨ob, keep _ _ e (fun q => ?_) (fun q => ?_)⟩
    · rw [q, hx] at e
      cases e
      exact p1.2.2 _ _ rfl
    · rw [q, hd] at e
      cases e
      exact p2.2.2 _ _ rfl
  · obtain ⟨a, vs, e1, e2, e3, e4, e5, e6⟩ := r.so i xs e
    have q1 : a ≠ x := fun z => by
      rw [z, h1] at e5
      cases e5
    have q2 : a ≠ dx := fun z => by
      rw [z, h2] at e5
      cases e5
    refine ⟨a, vs, e1, keep a _ e2 q1 q2, e3, e4, ?_, e6⟩
    show SlX.slH c.H0 x C dx ws a = none
    rw [off q1 q2]
    exact e5
/-! ### two new objects -/
/-- B is H with two new objects -/
structure New2 (H B : Hp) (x dx : Addr) (ox od : HO) : Prop where
  nx : H x = none
  nd : H dx = none
  ne : dx ≠ x
  ex : B x = some ox
  ed : B dx = some od
  el : ∀ a, a ≠ x → a ≠ dx → B a = H a
  px : Pln ox
  pd : Pln od
theorem New2.some {H B : Hp} {x dx : Addr} {ox od : HO} (n : New2 H B x dx ox od) {a : Addr} {o : HO} (e : H a = some o) : B a = some o := by
  rw [n.el a (fun z => by rw [z, n.nx] at e; cases e) (fun z => by rw [z, n.nd] at e; cases e)]
  exact e
theorem New2.none {H B : Hp} {x dx : Addr} {ox od : HO} (n : New2 H B x dx ox od) {a : Addr} (e : B a = none) : H a = none := by
  have q1 : a ≠ x := fun z => by
    rw [z, n.ex] at e
    cases e
  have q2 : a ≠ dx := fun z => by
    rw [z, n.ed] at e
    cases e
  rw [n.el a q1 q2] at e
  exact e
/-- back to the heap without them -/
theorem Ret.new2 {T : List (Addr × Str)} {l l' : Lh} {H B H' : Hp} {x dx : Addr} {ox od : HO} {ds : Option DSt} (n : New2 H B x dx ox od) (r : Ret K T l B l' H' ds) : Ret K T l H l' H' ds where
  gr := r.gr
  lh := r.lh
  nw := fun a o e => by
    rcases r.nw a o e with z | z
    · exact .inl z
    · exact .inr (n.none z)
  ml := r.ml
  nt := r.nt
  fr := fun a o e m t => r.fr a o (n.some e) m t
  fd := fun a e => n.none (r.fd a e)
  tb := r.tb
  wk := by
    rcases r.wk with z | ⟨z1, z2⟩
    · exact .inl z
    · exact .inr ⟨z1, fun a ha => n.none (z2 a ha)⟩
  ck := fun a h => (r.ck a h).imp id fun z => n.none z
  mr := r.mr
  ce := r.ce
  sm := r.sm
/-- .. and they are values from now on -/
theorem Ret.new2v {T : List (Addr × Str)} {l l' : Lh} {H B H' : Hp} {x dx : Addr} {ox od : HO} {ds : Option DSt} (n : New2 H B x dx ox od) (lh0 : Ext l.L H) (m1 : x ∉ mtL l) (m2 : dx ∉ mtL l) (r : Ret K T l B l' H' ds) : Ret K T l H ⟨upd (upd l'.L dx od) x ox, l'.wm, l'.cl⟩ H' ds ∧ Gr l' ⟨upd (upd l'.L dx od) x ox, l'.wm, l'.cl⟩ := by
  have ax : l.L x = none := lh0.none n.nx
  have ad : l.L dx = none := lh0.none n.nd
  have lx := r.noL n.ex ax
  have ld := r.noL n.ed ad
  have hx := r.still n.ex n.px m1
  have hd := r.still n.ed n.pd m2
  have mx := r.wm_in n.ex m1
  have md := r.wm_in n.ed m2
  have at_ : ∀ {a : Addr} {o : HO}, upd (upd l'.L dx od) x ox a = some o → (a = x ∧ o = ox) ∨ (a = dx ∧ o = od) ∨ (a ≠ x ∧ a ≠ dx ∧ l'.L a = some o) := fun {a o} e => by
    by_cases q1 : a = x
    · rw [q1, upd_same] at e
      cases e
      exact .inl ⟨q1, rfl⟩
    · rw [upd_ne q1] at e
      by_cases q2 : a = dx
      · rw [q2, upd_same] at e
        cases e
        exact .inr (.inl ⟨q2, rfl⟩)
      · rw [upd_ne q2] at e
        exact .inr (.inr ⟨q1, q2, e⟩)
  have g2 : Gr l' ⟨upd (upd l'.L dx od) x ox, l'.wm, l'.cl⟩ := ⟨fun a o e => by
    show upd (upd l'.L dx od) x ox a = some o
    rw [upd_ne (fun z => by rw [z, lx] at e; cases e), upd_ne (fun z => by rw [z, ld] at e; cases e)]
    exact e, .inr rfl, [], by simp⟩
  refine ⟨⟨r.gr.trans g2, fun a o e => ?_, fun a o e => ?_, fun a ha => ?_, fun a o e => ?_, fun a o e m t => r.fr a o (n.some e) m t, fun a e => n.none (r.fd a e), r.tb, ?_, fun a h => (r.ck a h).imp id fun z => n.none z, r.mr, r.ce.step g2 rfl rfl fun _ _ _ h => h, r.sm⟩, g2⟩
  · rcases at_ e with ⟨rfl, rfl⟩ | ⟨rfl, rfl⟩ | ⟨_, _, e⟩
    · exact hx
    · exact hd
    · exact r.lh a o e
  · rcases at_ e with ⟨rfl, rfl⟩ | ⟨rfl, rfl⟩ | ⟨_, _, e⟩
    · exact .inr n.nx
    · exact .inr n.nd
    · rcases r.nw a o e with z | z
      · exact .inl z
      · exact .inr (n.none z)
  · show upd (upd l'.L dx od) x ox a = none
    have q1 : a ≠ x := fun q => by
      subst q
      exact mx ha
    have q2 : a ≠ dx := fun q => by
      subst q
      exact md ha
    rw [upd_ne q1, upd_ne q2]
    exact r.ml a ha
  · rcases at_ e with ⟨rfl, rfl⟩ | ⟨rfl, rfl⟩ | ⟨_, _, e⟩
    · exact n.px.1
    · exact n.pd.1
    · exact r.nt a o e
  · rcases r.wk with z | ⟨z1, z2⟩
    · exact .inl z
    · exact .inr ⟨z1, fun a ha => n.none (z2 a ha)⟩
end

/-! ### the promise of an __init__ -/
/-- the new instance at x, where nothing or some of its slots are set -/
def PkAt (G : Hp) (x C dx : Addr) (vs : List (Option V)) (B : Hp) : Prop := (vs = [] ∧ B = G) ∨ B = SlX.slH G x C dx vs
/-- the slots, set one behind another -/
def vsOf (don : List (Nat × V)) : List (Option V) := don.foldl (fun vs p => SlX.putS p.1 p.2 vs) []
theorem vsOf_snoc (don : List (Nat × V)) (i : Nat) (v : V) : vsOf (don ++ [(i, v)]) = SlX.putS i v (vsOf don) := by
  unfold vsOf
  rw [List.foldl_append]
  rfl
def pickV (pm : List Nat) (ws : List V) : List V := pm.map fun j => ws.getD j .non
def pick (pm : List Nat) (ds : List D) : List D := pm.map fun j => ds.getD j .non
theorem DtAll.pick {K : PySem.W.Frag} {l : Lh} {ws : List V} {ds : List D} (h : DtAll K l ws ds) : ∀ pm : List Nat, DtAll K l (pickV pm ws) (Lw.pick pm ds)
  | [] => .nil
  | j :: pm => by
    refine .cons ?_ (DtAll.pick h pm)
    have hl := h.length
    show Dt K l (ws.getD j .non) (ds.getD j .non)
    rw [List.getD_eq_getElem?_getD, List.getD_eq_getElem?_getD]
    cases e : ds[j]? with
    | none =>
      have : ws[j]? = none := by
        rw [List.getElem?_eq_none_iff] at e ⊢
        omega
      rw [this]
      exact .non
    | some d =>
      obtain ⟨v, hv, dv⟩ := h.get e
      rw [hv]
      exact dv
structure Raw (l : Lh) (G : Hp) (x C dx : Addr) : Prop where
  hx : G x = some (.ins C dx [])
  hd : G dx = some (.own x)
  ne : dx ≠ x
  lx : l.L x = none
  ld : l.L dx = none
  mx : x ∉ mtL l
  md : dx ∉ mtL l
def spI (K : PySem.W.Frag) (T : List (Addr × Str)) (cn : String) (n : Nat) (fm : Fn) : Sp := fun vs H Q E => ∃ x dx ws l ds xs, vs = .ref x :: ws ∧ ws.length = n ∧ Raw l H x (cAd K cn) dx ∧ Ret K T l H l H ds ∧ DtAll K l ws xs ∧ match fm xs ds with
  | .ok d ds' => ∃ fs, d = .obj cn fs ∧ ∀ H' l' us, Ret K T l (SlX.slH H x (cAd K cn) dx (us.map some)) l' H' ds' → DtAll K l' us fs → Q .non H'
  | .er e ds' => ∀ cls dd B H' l' us, PkAt H x (cAd K cn) dx us B → Ret K T l B l' H' ds' → Fly K l' cls dd e → E cls dd H'
  | .no => False
def FnI (P : Program) (w : World) (K : PySem.W.Frag) (mg : Str → Option Value) (base : Heap) (T : List (Addr × Str)) (k : Nat) (cn : String) (f : Addr) (n : Nat) (fm : Fn) : Prop :=
  ∀ (A : Around) (outer : List Env) (s : Shared) (H : Hp) (us : List Value) (vs : List V) (Q : VK) (E : XK), Room k A → A.guards = some [] → Env0 P w K mg base A outer s H → Vals vs us → spI K T cn n fm vs H Q E →
    codeAny (model P w) A (.call (.ref f) ⟨us, []⟩) (CR (L2.CX P w) outer P w H s Q E) s
/-- the class cn is made with n arguments -/
structure MkM (P : Program) (w : World) (K : PySem.W.Frag) (mg : Str → Option Value) (base : Heap) (T : List (Addr × Str)) (k : Nat) (cn : String) (n : Nat) (fm : Fn) : Prop where
  ex : ∃ f, mg (Str.ofString cn) = some (.ref (cAd K cn)) ∧ Mk K (cAd K cn) f ∧ FnI P w K mg base T k cn f n fm
  ob : ∀ xs ds d ds', fm xs ds = .ok d ds' → ∃ fs, d = .obj cn fs
theorem MkM.cast {P : Program} {w : World} {K : PySem.W.Frag} {mg : Str → Option Value} {base : Heap} {T T' : List (Addr × Str)} {k : Nat} {cn : String} {n : Nat} {fm : Fn} (F : MkM P w K mg base T k cn n fm) (e : T' = T) : MkM P w K mg base T' k cn n fm := by
  subst e
  exact F
section
variable {X : Cx} {c : Pk} {W : WX}
theorem make_sp {cn : String} {fm : Fn} {l1 : Lh} {S1 : S} {σ : L2.St} {H1 : Hp} {Q : VK} {xs : List D} {vs : List V} {x dx : Addr} (ob : ∀ xs ds d ds', fm xs ds = .ok d ds' → ∃ fs, d = .obj cn fs) (rp1 : Rep X.K c l1 S1 σ H1) (da : DtAll X.K l1 vs xs) (po1 : Po X.K c W l1 σ (Dt X.K) Q (call fm xs S1))
    (fx : H1 x = none) (fd : H1 dx = none) (hne : dx ≠ x) : spI X.K c.T cn xs.length fm (.ref x :: vs) (upd (upd H1 dx (.own x)) x (.ins (cAd X.K cn) dx [])) (fun v H2 => v = .non ∧ Q (.ref x) H2) (WE W σ) := by
  have nwm : ∀ {a : Addr}, H1 a = none → a ∉ mtL l1 := fun {a} z q => by
    obtain ⟨o, e, _⟩ := rp1.rt.mt a q
    rw [z] at e
    cases e
  have eG : upd (upd H1 dx (.own x)) x (.ins (cAd X.K cn) dx []) dx = some (.own x) := by rw [upd_ne hne, upd_same]
  have n2 : New2 H1 (upd (upd H1 dx (.own x)) x (.ins (cAd X.K cn) dx [])) x dx (.ins (cAd X.K cn) dx []) (.own x) := ⟨fx, fd, hne, upd_same, eG, fun a a1 a2 => by rw [upd_ne a1, upd_ne a2], pln_ins, pln_own⟩
  have nS : ∀ us : List (Option V), New2 H1 (SlX.slH (upd (upd H1 dx (.own x)) x (.ins (cAd X.K cn) dx [])) x (cAd X.K cn) dx us) x dx (SlX.SlO x (cAd X.K cn) dx us) (.xd []) := fun us => ⟨fx, fd, hne, slH_x, slH_d hne, fun a a1 a2 => by rw [SlX.slH_ne a1 a2, upd_ne a1, upd_ne a2], pln_sl, pln_xd⟩
  have fd2 : upd H1 dx (.own x) x = none := by
    rw [upd_ne hne.symm]
    exact fx
  have rt0 : Ret X.K c.T l1 (upd (upd H1 dx (.own x)) x (.ins (cAd X.K cn) dx [])) l1 (upd (upd H1 dx (.own x)) x (.ins (cAd X.K cn) dx [])) S1.ds := ((rp1.rt.self.layO (o := .own x) fd).layO (o := .ins (cAd X.K cn) dx []) fd2).self
  refine ⟨x, dx, vs, l1, S1.ds, xs, rfl, da.length, ⟨upd_same, eG, hne, rp1.rt.lh.none fx, rp1.rt.lh.none fd, nwm fx, nwm fd⟩, rt0, da, ?_⟩
  unfold call at po1
  cases ef : fm xs S1.ds with
  | no =>
    rw [ef] at po1
    exact po1
  | er y ds' =>
    rw [ef] at po1
    intro cls dd B H' l' us pk rt fl
    have rt2 : Ret X.K c.T l1 H1 l' H' ds' := by
      rcases pk with ⟨_, rfl⟩ | rfl
      · exact Ret.new2 n2 rt
      · exact Ret.new2 (nS us) rt
    exact po1 cls dd H' l' (rp1.on rt2) rt2.gr fl
  | ok d ds' =>
    rw [ef] at po1
    obtain ⟨fs, ed⟩ := ob _ _ _ _ ef
    refine ⟨fs, ed, fun H' l' us rt da' => ⟨rfl, ?_⟩⟩
    obtain ⟨rt2, g2⟩ := Ret.new2v (nS (us.map some)) rp1.rt.lh (nwm fx) (nwm fd) rt
    subst ed
    exact po1 (.ref x) H' _ (rp1.on rt2) rt2.gr (.obj (dx := dx) (vs := us) upd_same (by show upd (upd l'.L dx (.xd [])) x _ dx = _; rw [upd_ne hne, upd_same]) (da'.grow g2))
/-- C(e, ..) -/
theorem le_make {k n : Nat} {cn : String} {fm : Fn} {e : Expr} {es : List Expr} {m : M (List D)} {p pos : Pos} (F : MkM X.prog X.w X.K X.mg X.base c.T k cn n fm) (hr : Room (k + 1) X.A) (gd : X.A.guards = some []) (tk : Takes X W) (ha : LA X c W (e :: es) m) (hn : (e :: es).length = n := by rfl) (hg : Gl X (Str.ofString cn) := by rfl)
    (hdb : ((Str.ofString cn) == ("__debug__" : Str)) = false := by decide) (he : starEach (e :: es) X.env = (false, eval e X.env) :: starEach es X.env := by rfl) (hpl : (backTo pos (starEach es X.env)).any (·.1) = false := by rfl) : LE X c W (.Call (.Name (Str.ofString cn) p) (e :: es) [] pos) (mCall fm m) := by
  subst hn
  have ob := F.ob
  obtain ⟨f, hm, M, F⟩ := F.ex
  refine ⟨fun pins s σ H Q I h => ?_⟩
  obtain ⟨l, S, rp, po⟩ := h
  refine wpAny_Call_Name_kw (ld_glob I hg hm ?_ hdb)
  have h0 : liftA X.K c W (e :: es).length m σ H fun vs H1 => ∃ l1 S1 xs, Rep X.K c l1 S1 σ H1 ∧ DtAll X.K l1 vs xs ∧ xs.length = (e :: es).length ∧ Po X.K c W l1 σ (Dt X.K) Q (call fm xs S1) :=
    ⟨l, S, rp, Po.bind po fun xs S1 vs H1 l1 _ rp1 g1 q1 po1 => ⟨l1, S1, xs, rp1, q1.1, q1.2, po1⟩⟩
  refine PySem.W.callWith_K (h₀ := X.base) I.ok.mod.kin M.kp (thn (PA.run ha pos pins s σ H _ I h0) fun us s1 ⟨vs, H1, I1, r, l1, S1, xs, rp1, da, hlen, po1⟩ => ⟨I1.kIn, ?_⟩) he hpl
  have sp := make_sp (x := s1.heap.objs.size + 1) (dx := s1.heap.objs.size) ob rp1 da po1 (I1.hok.fresh (Nat.le_succ _)) (I1.hok.fresh (Nat.le_refl _)) (Nat.ne_of_lt (Nat.lt_succ_self _))
  rw [hlen] at sp
  have I2 := Inv.made (C := cAd X.K cn) I1
  have r2 : Vals (V.ref (s1.heap.objs.size + 1) :: vs) (Value.ref (s1.heap.objs.size + 1) :: us) := .cons rfl r
  refine wpAny_call (make_map (f := f) I1.kIn M.makes M.init (beq_iff_eq.mp M.fn) (codeAny_mono (F _ X.stack _ _ (Value.ref (s1.heap.objs.size + 1) :: us) _ _ (WE W σ) (hr.make (cAd X.K cn) us []) gd (I2.env0.make (cAd X.K cn) us []) r2 sp) fun r s' hq' => ?_))
  cases r with
  | error e => exact passAt tk σ pins _ _ e s' I2 hq'
  | ok fl =>
    cases fl with
    | ret u =>
      obtain ⟨v, H', I3, rv, ev, q3⟩ := I2.after hq'
      subst ev
      exact ⟨rv, ⟨V.ref (s1.heap.objs.size + 1), H', I3, rfl, q3⟩⟩
    | next => exact False.elim hq'
    | brk => exact False.elim hq'
    | cont => exact False.elim hq'
end
/-! ### __init__: some statements, then self.f = e for each slot -/
def asM : List (M D) → M (List D)
  | [] => aNil
  | m :: ms => aCons m (asM ms)
/-- self stands in slot 0 -/
def selfOk (σ : List (Option Sl)) : Bool := match σ[0]? with
  | some (some (Sl.f 0)) => true
  | _ => false
theorem selfOk_at {σ : List (Option Sl)} (h : selfOk σ = true) : σ[0]? = some (some (Sl.f 0)) := by
  unfold selfOk at h
  split at h
  · rename_i q
    exact q
  · cases h
def fnI (cn : String) (pm : List Nat) (n k : Nat) (b : M Fl) (m : M (List D)) : Fn := fun xs ds => if xs.length = k then
    match b ⟨some (.f 0) :: start n xs, ds⟩ with
    | .ok .nx s => if selfOk s.σ then (match m s with
        | .ok fs s' => .ok (.obj cn (pick pm fs)) s'.ds
        | .er x s' => .er x s'.ds
        | .no => .no)
      else .no
    | .er x s => .er x s.ds
    | _ => .no
  else .no
theorem fnI_ob {cn : String} {pm : List Nat} {n k : Nat} {b : M Fl} {m : M (List D)} (xs : List D) (ds : Option DSt) (d : D) (ds' : Option DSt) (h : fnI cn pm n k b m xs ds = .ok d ds') : ∃ fs, d = .obj cn fs := by
  unfold fnI at h
  split at h
  · split at h
    · split at h
      · split at h
        · cases h
          exact ⟨_, rfl⟩
        · cases h
        · cases h
      · cases h
    · cases h
    · cases h
  · cases h
theorem asM_len : ∀ {ms : List (M D)} {s1 s2 : S} {ds : List D}, asM ms s1 = .ok ds s2 → ds.length = ms.length
  | [], S, S', ds, h => by
    cases h
    rfl
  | m :: ms, S, S', ds, h => by
    have h : bnd m (fun x => bnd (asM ms) fun xs => ret (x :: xs)) S = .ok ds S' := h
    cases e : m S with
    | no =>
      rw [bnd_no e] at h
      cases h
    | er y S1 =>
      rw [bnd_er e] at h
      cases h
    | ok d S1 =>
      rw [bnd_ok e] at h
      cases e2 : asM ms S1 with
      | no =>
        rw [bnd_no e2] at h
        cases h
      | er y S2 =>
        rw [bnd_er e2] at h
        cases h
      | ok ds2 S2 =>
        rw [bnd_ok e2] at h
        cases h
        rw [List.length_cons, List.length_cons, asM_len e2]
inductive PSets (X : Cx) (T : List (Addr × Str)) (W : WX) (fs : List String) : List Stmt → List Nat → List (M D) → Prop
  | nil : PSets X T W fs [] [] []
  | cons {f : String} {i : Nat} {e : Expr} {m : M D} {p1 p2 pos : Pos} {st : List Stmt} {ix : List Nat} {ms : List (M D)} : fs[i]? = some f → (∀ c : Pk, c.T = T → LE X c W e m) → swapsWith e (some (.Attribute (.Name "self" p1) (Str.ofString f) p2)) pos.line X.env = pure false → PSets X T W fs st ix ms →
      PSets X T W fs (.Assign [.Attribute (.Name "self" p1) (Str.ofString f) p2] e pos :: st) (i :: ix) (m :: ms)
section
variable {X : Cx} {T : List (Addr × Str)} {W : WX}
/-- what the stores ask -/
def tSets (X : Cx) (T : List (Addr × Str)) (W : WX) (cn : String) (ix0 ix : List Nat) (ms : List (M D)) : TS := fun En σ H => ∃ (c : Pk) (l : Lh) (S : Lw.S) (x dx : Addr) (ws : List V) (ds0 : List Lw.D) (l0 : Lh) (G : Hp), c.T = T ∧ c.l0 = l0 ∧ σ[0]? = some (some (.ref x)) ∧ Raw l0 G x (cAd X.K cn) dx ∧ ws.length = ix0.length ∧ PkAt G x (cAd X.K cn) dx (vsOf (ix0.zip ws)) c.H0 ∧ Rep X.K c l S σ H ∧ DtAll X.K l ws ds0 ∧
  match asM ms S with
  | .ok ds S' => ∀ c' l' H' ws', c'.T = T → c'.l0 = l0 → ws'.length = (ix0 ++ ix).length → PkAt G x (cAd X.K cn) dx (vsOf ((ix0 ++ ix).zip ws')) c'.H0 → Rep X.K c' l' S' σ H' → DtAll X.K l' ws' (ds0 ++ ds) → En.nx σ H'
  | .er y S' => ∀ c' l' H' vs' cls dd, c'.T = T → c'.l0 = l0 → PkAt G x (cAd X.K cn) dx vs' c'.H0 → Rep X.K c' l' S' σ H' → Fly X.K l' cls dd y → W cls dd σ H'
  | .no => False
theorem psets_run {cn : String} {fs : List String} (C : ClO X.K cn fs) (h0 : X.N[0]? = some ("self" : Str)) (hv : Vis X.env.scope ("self" : Str)) : ∀ {st : List Stmt} {ix : List Nat} {ms : List (M D)} (ix0 : List Nat), PSets X T W fs st ix ms → PSs X st (tSets X T W cn ix0 ix ms) := by
  intro st ix ms ix0 hp
  induction hp generalizing ix0 with
  | nil =>
    refine ⟨fun pins s σ H D I h => ?_⟩
    obtain ⟨c, l, S, x, dx, ws, ds0, l0, G, e1, e2, e3, e4, e6, e5, rp, da, po⟩ := h
    refine pss_nil.run pins s σ H D I ?_
    exact po c l H ws e1 e2 (by rw [List.append_nil]; exact e6) (by rw [List.append_nil]; exact e5) rp (by rw [List.append_nil]; exact da)
  | @cons f i e m p1 p2 pos st ix2 ms hf he hs hrest ih =>
    have ih2 := ih (ix0 ++ [i])
    obtain ⟨p, sl⟩ := C.sl i f hf
    refine ⟨fun pins s σ H D I h => ?_⟩
    obtain ⟨c, l, S, x, dx, ws, ds0, l0, G, e1, e2, e3, e4, e6, e5, rp, da, po⟩ := h
    refine (pss_cons (SlX.ps_sl (pe_var (i := 0) h0 hv) (he c e1) hs) ih2).run pins s σ H D I ?_
    show SlX.sSl X.K (tVar 0) (liftE X.K c W m) (Str.ofString f) { D with nx := tSets X T W cn (ix0 ++ [i]) ix2 ms D } σ H
    refine ⟨l, S, rp, ?_⟩
    have sx : ∀ {l1 : Lh} {S1 : Lw.S} {H1 : Hp}, Rep X.K c l1 S1 σ H1 → SlX.Slt H1 x (cAd X.K cn) dx (vsOf (ix0.zip ws)) := fun {l1 S1 H1} rp1 => by
      rcases e5 with ⟨ev, eB⟩ | eB
      · exact .inl ⟨rp1.rt.still (by rw [eB]; exact e4.hx) pln_ins (by rw [e2]; exact e4.mx), ev⟩
      · refine .inr ⟨rp1.rt.still (by rw [eB]; exact slH_x) pln_sl (by rw [e2]; exact e4.mx), rp1.rt.still (by rw [eB]; exact slH_d e4.ne) pln_xd (by rw [e2]; exact e4.md)⟩
    have cx : ∃ ox, c.H0 x = some ox ∧ Pln ox := by
      rcases e5 with ⟨_, eB⟩ | eB
      · exact ⟨_, by rw [eB]; exact e4.hx, pln_ins⟩
      · exact ⟨_, by rw [eB]; exact slH_x, pln_sl⟩
    have cd : ∃ od, c.H0 dx = some od ∧ Pln od := by
      rcases e5 with ⟨_, eB⟩ | eB
      · exact ⟨_, by rw [eB]; exact e4.hd, pln_own⟩
      · exact ⟨_, by rw [eB]; exact slH_d e4.ne, pln_xd⟩
    obtain ⟨ox, cx1, cx2⟩ := cx
    obtain ⟨od, cd1, cd2⟩ := cd
    cases em : m S with
    | no =>
      have : asM (m :: ms) S = .no := bnd_no em
      rw [this] at po
      exact po
    | er y S1 =>
      have : asM (m :: ms) S = .er y S1 := bnd_er em
      rw [this] at po
      intro cls dd H' l' rp1 g1 fl
      exact po c l' H' _ cls dd e1 e2 e5 rp1 fl
    | ok d S1 =>
      have ea : asM (m :: ms) S = bnd (asM ms) (fun xs => ret (d :: xs)) S1 := bnd_ok em
      rw [ea] at po
      intro v H1 l1 rp1 g1 dv
      refine ⟨.ref x, e3, x, cAd X.K cn, dx, p, vsOf (ix0.zip ws), i, rfl, sx rp1, C.sc, sl, ?_⟩
      have ez : (ix0 ++ [i]).zip (ws ++ [v]) = ix0.zip ws ++ [(i, v)] := by
        rw [List.zip_append e6.symm]
        rfl
      rw [← vsOf_snoc, ← ez]
      refine ⟨{ c with H0 := SlX.slH c.H0 x (cAd X.K cn) dx (vsOf ((ix0 ++ [i]).zip (ws ++ [v]))) }, l1, S1, x, dx, ws ++ [v], ds0 ++ [d], l0, G, e1, e2, e3, e4, by simp [e6], .inr ?_, rp1.poke e4.ne cx1 cx2 cd1 cd2 (by rw [e2]; exact e4.lx) (by rw [e2]; exact e4.ld) (by rw [e2]; exact e4.mx) (by rw [e2]; exact e4.md), (da.grow g1).append (.cons dv .nil), ?_⟩
      · rcases e5 with ⟨_, eB⟩ | eB
        · show SlX.slH c.H0 x _ dx _ = _
          rw [eB]
        · show SlX.slH c.H0 x _ dx _ = _
          rw [eB, SlX.slH_twice e4.ne]
      · cases er : asM ms S1 with
        | no =>
          rw [bnd_no er] at po
          exact po
        | er y S2 =>
          rw [bnd_er er] at po
          exact po
        | ok ds S2 =>
          rw [bnd_ok er] at po
          intro c' l' H' vs' k1 k2 k6 k3 k4 k5
          rw [List.append_assoc] at k6 k3 k5
          exact po c' l' H' vs' k1 k2 k6 k3 k4 k5
/-- a block that begins with b and goes on with what is read by t -/
theorem lbi_nil {c : Pk} {st : List Stmt} {t : TS} (h : PSs X st t) : PSs X st (tSeq (liftS X.K c W sNx) t) := PSs.imp h fun En σ H ⟨l, S, rp, po⟩ => po σ H l rp (Gr.refl _)
theorem lbi_cons {c : Pk} {st : Stmt} {rest : List Stmt} {a b : M Fl} {t : TS} (h1 : LS X c W st a) (h2 : PSs X rest (tSeq (liftS X.K c W b) t)) : PSs X (st :: rest) (tSeq (liftS X.K c W (sSeq a b)) t) :=
  PSs.imp (pss_cons h1 h2) fun En σ H h => seq_imp (D := { En with nx := t En }) h
end
section
variable {P : Program} {w : World} {K : PySem.W.Frag} {mg : Str → Option Value} {base : Heap} {T : List (Addr × Str)}
theorem start_self {N : List Str} {n : Nat} {l : Lh} {H : Hp} {ds : Option DSt} {x : V} {vs : List V} {xs : List D} (hN : N.length = n + 1) (rt : Ret K T l H l H ds) (da : DtAll K l vs xs) : Rep K ⟨T, l, H, some x⟩ l ⟨some (.f 0) :: Lw.start n xs, ds⟩ (L2.start N (x :: vs)) H := by
  have hl := da.length
  have at_ : ∀ (i : Nat) s, (Lw.start n xs)[i]? = some (some s) → ∃ d, xs[i]? = some d ∧ s = .d d := fun i s e => by
    unfold Lw.start at e
    by_cases hi : i < xs.length
    · rw [List.getElem?_append_left (by simpa using hi), List.getElem?_map] at e
      cases q : xs[i]? with
      | none =>
        rw [q] at e
        cases e
      | some d =>
        rw [q] at e
        simp at e
        exact ⟨d, rfl, e.symm⟩
    · rw [List.getElem?_append_right (by simpa using Nat.le_of_not_lt hi), List.getElem?_replicate] at e
      split at e <;> simp at e
  have at1 : ∀ (i : Nat) s, (some (Sl.f 0) :: Lw.start n xs)[i]? = some (some s) → (i = 0 ∧ s = .f 0) ∨ ∃ j d, i = j + 1 ∧ xs[j]? = some d ∧ s = .d d := fun i s e => by
    cases i with
    | zero =>
      simp at e
      exact .inl ⟨rfl, e.symm⟩
    | succ j =>
      rw [List.getElem?_cons_succ] at e
      obtain ⟨d, q1, q2⟩ := at_ j s e
      exact .inr ⟨j, d, rfl, q1, q2⟩
  have st : L2.start N (x :: vs) = some x :: (vs.map some ++ List.replicate (n - vs.length) none) := by
    unfold L2.start
    simp [hN]
  refine ⟨rt, ?_, fun i y e => ?_, fun i ys e => ?_, fun i j ys zs a n e1 e2 e3 e4 => ?_, fun i k e => ?_⟩
  · rw [st]
    simp [Lw.start, hl]
  · rcases at1 i _ e with ⟨_, z⟩ | ⟨j, d, rfl, q1, q2⟩
    · cases z
    · cases q2
      obtain ⟨v, e3, dt⟩ := da.get q1
      refine ⟨v, ?_, dt⟩
      have hi : j < vs.length := (List.getElem?_eq_some_iff.mp e3).1
      rw [st, List.getElem?_cons_succ, List.getElem?_append_left (by simpa using hi), List.getElem?_map, e3]
      rfl
  · rcases at1 i _ e with ⟨_, z⟩ | ⟨j, d, rfl, q1, q2⟩
    · cases z
    · cases q2
  · rcases at1 i _ e1 with ⟨_, z⟩ | ⟨j, d, rfl, q1, q2⟩
    · cases z
    · cases q2
  · rcases at1 i _ e with ⟨rfl, z⟩ | ⟨j, d, rfl, q1, q2⟩
    · cases z
      refine ⟨x, rfl, ?_⟩
      rw [st]
      rfl
    · cases q2
/-- what is left of self in slot 0 -/
theorem self_at {c : Pk} {l : Lh} {S : S} {σ : L2.St} {H : Hp} {x : V} (rp : Rep K c l S σ H) (e : S.σ[0]? = some (some (.f 0))) (hf : c.fx = some x) : σ[0]? = some (some x) := by
  obtain ⟨v, h1, h2⟩ := rp.sf 0 0 e
  have h1 : c.fx = some v := h1
  rw [hf] at h1
  cases h1
  exact h2
/-- an __init__ keeps its mirror's promise; the mirror of its first statements leaves self alone -/
theorem okI {cn : String} {ix pm : List Nat} {qual : Str} {params : Arguments} {body : List Stmt} {scope : Scope} {f : Addr} {fd : FuncData} {N ps : List Str} {k n m0 : Nat} {b : M Fl} {ms : List (M D)} (F : FunD K "__init__" qual params body scope [] [] f fd) (Sc : FnScope N ps scope) (hix : ∀ ws : List V, ws.length = ix.length → vsOf (ix.zip ws) = (pickV pm ws).map some ∧ vsOf (ix.zip ws) ≠ []) (hN : N.length = n + 1) (hps : ps.length = m0 + 1) (h0 : N[0]? = some ("self" : Str)) (hv : Vis scope ("self" : Str))
    (hbd : ∀ (kV doc pm : Value) (an : Option Addr) (cdv ct : Value) (us : List Value), us.length = ps.length → bindArgs (PySem.W.fnOf "__init__" qual params body scope .none kV doc pm an cdv ct) ⟨us, []⟩ = pure (ps.zip us))
    (hb : ∀ (cdv : Value) (A : Around) (outer : List Env) (s : Shared) (H : Hp) (E : XK) (c : Pk), c.T = T → A.guards = some [] → Room k (A.deeper (envOfC qual scope s.heap.objs.size f cdv)) →
      PSs (cxOf (L2.CX P w) P w K mg base N qual scope f cdv A outer s H E) body (tSeq (liftS K c (fun cls d _ H => E cls d H) b) (tSets (cxOf (L2.CX P w) P w K mg base N qual scope f cdv A outer s H E) T (fun cls d _ H => E cls d H) cn [] ix ms))) : FnI P w K mg base T (k + 1) cn f m0 (fnI cn pm n m0 b (asM ms)) := by
  intro A outer s H us vs Q E hr gd e0 rv h
  obtain ⟨x, dx, ws, l, ds, xs, rfl, hl, raw, rt, da, post⟩ := h
  have hlen : (V.ref x :: ws).length = ps.length := by rw [List.length_cons, hl, hps]
  have hb2 := F.bindsA (ps := ps) hbd s us (by rw [← rv.length]; exact hlen)
  obtain ⟨oc, od, dV, kV, doc, pmv, an, cdv, ct, osl, rfl, lk, hcd, _, _⟩ := F.ex
  refine LamX.run_ofS (N := N) (ps := ps) lk hcd Sc hr e0 hb2 rv hlen fun hr' => ?_
  refine ⟨_, hb cdv A outer s H E ⟨T, l, H, some (.ref x)⟩ rfl gd hr', ?_⟩
  have rp := start_self (K := K) (x := .ref x) hN rt da
  refine ⟨l, _, rp, ?_⟩
  have hx : xs.length = m0 := da.length.symm.trans hl
  unfold fnI at post
  rw [if_pos hx] at post
  cases e : b ⟨some (.f 0) :: Lw.start n xs, ds⟩ with
  | no =>
    rw [e] at post
    exact post
  | er y S' =>
    rw [e] at post
    intro cls dd σ' H' l' rp' g fl
    exact post cls dd H H' l' [] (.inl ⟨rfl, rfl⟩) rp'.rt fl
  | ok fl S' =>
    rw [e] at post
    intro σ' H' l' rp' g
    cases fl with
    | rt d => exact post.elim
    | bk => exact post.elim
    | ct => exact post.elim
    | nx =>
      dsimp only at post
      by_cases hs : selfOk S'.σ = true
      case neg =>
        rw [if_neg hs] at post
        exact post.elim
      rw [if_pos hs] at post
      have hs0 := selfOk_at hs
      refine ⟨⟨T, l, H, some (.ref x)⟩, l', S', x, dx, [], [], l, H, rfl, rfl, self_at rp' hs0 rfl, raw, rfl, .inl ⟨rfl, rfl⟩, rp', .nil, ?_⟩
      cases em : asM ms S' with
      | no =>
        rw [em] at post
        exact post
      | er y S2 =>
        rw [em] at post
        intro c' l2 H2 vs' cls dd k1 k2 k3 k4 fl
        have rt2 := k4.rt
        rw [k1, k2] at rt2
        exact post cls dd c'.H0 H2 l2 vs' k3 rt2 fl
      | ok fs2 S2 =>
        rw [em] at post
        obtain ⟨fs3, ef, post⟩ := post
        cases ef
        intro c' l2 H2 ws' k1 k2 k6 k3 k4 k5
        have rt2 := k4.rt
        rw [k1, k2] at rt2
        rw [List.nil_append] at k5 k3 k6
        obtain ⟨q1, q2⟩ := hix ws' k6
        rcases k3 with ⟨ev, eB⟩ | eB
        · exact absurd ev q2
        · rw [eB, q1] at rt2
          exact post H2 l2 (pickV pm ws') rt2 (k5.pick pm)
end
end Lw

set_option Elab.async false
set_option linter.all false
set_option maxRecDepth 100000
set_option maxHeartbeats 4000000
/-! Lw: methods of several classes; xs[::-1] of lists and tuples. -/
namespace Lw
open PySem PySem.Spec PyProof.Rows L2 HT
section
variable {P : Program} {w : World} {K : PySem.W.Frag} {mg : Str → Option Value} {base : Heap} {T : List (Addr × Str)} {k n : Nat} {m : Str}
theorem al_nil : ∀ p ∈ ([] : List (String × Fn)), MeM P w K mg base T k p.1 m n p.2 := fun _ h => by cases h
theorem al_cons {cn : String} {fm : Fn} {r : List (String × Fn)} (h : MeM P w K mg base T k cn m n fm) (hr : ∀ p ∈ r, MeM P w K mg base T k p.1 m n p.2) : ∀ p ∈ (cn, fm) :: r, MeM P w K mg base T k p.1 m n p.2 := fun p hp => by
  rcases List.mem_cons.mp hp with rfl | hp
  · exact h
  · exact hr p hp
end
/-! ### t[::-1] -/
section
variable {prog : Program} {w : World} {A : Around} {E : Value → Shared → Prop} {s : Shared}
theorem sliceApplied_rev {sl : Addr} {vl vu vs : Value} {n : Nat} {Q : Int × Int × Nat → Shared → Prop} (hs : s.heap.IsSliceOf sl vl vu vs) (pl : IsPart vl none) (pu : IsPart vu none) (ps : IsPart vs (some (-1)))
    (h : Q ((n : Int) - 1, -1, n) s) : wpAny (model prog w) A (Builtin.Slice.sliceApplied (.ref sl) (pure (n : Int))) Q E s := by
  obtain ⟨os, hos, hcs, hds⟩ := id hs
  unfold Builtin.Slice.sliceApplied Builtin.Slice.sliceFields
  refine wpAny_bind (wpAny_bind (wpAny_field hos hds (x := vl) rfl (wpAny_bind (wpAny_field hos hds (x := vu) rfl (wpAny_bind (wpAny_field hos hds (x := vs) rfl (wpAny_pure ?_)))))))
  refine wpAny_bind (HT.slicePart_ ps ?_)
  show wpAny _ _ (if ((-1 : Int) == 0) = true then _ else _) _ _ s
  rw [if_neg (by decide)]
  refine wpAny_bind (HT.slicePart_ pl (wpAny_bind (HT.slicePart_ pu (wpAny_bind (wpAny_pure ?_)))))
  show wpAny _ _ (match Builtin.Slice.sliceAdjust none none (-1) (n : Int) with | (lo, hi) => pure (lo, (-1 : Int), Builtin.Slice.slicePlaces lo hi (-1))) _ _ s
  have e1 : Builtin.Slice.sliceAdjust none none (-1) (n : Int) = ((n : Int) - 1, -1) := by
    unfold Builtin.Slice.sliceAdjust
    simp
  have e2 : Builtin.Slice.slicePlaces ((n : Int) - 1) (-1) (-1) = n := by
    unfold Builtin.Slice.slicePlaces
    simp
    omega
  rw [e1]
  show wpAny _ _ (pure ((n : Int) - 1, (-1 : Int), Builtin.Slice.slicePlaces ((n : Int) - 1) (-1) (-1))) _ _ s
  rw [e2]
  exact wpAny_pure h
theorem pick_rev (xs : Array Value) : ((List.range xs.size).filterMap fun (k : Nat) => xs[((xs.size : Int) - 1 + (k : Int) * (-1)).toNat]?).toArray = xs.toList.reverse.toArray := by
  have e : (List.range xs.size).filterMap (fun (k : Nat) => xs[((xs.size : Int) - 1 + (k : Int) * (-1)).toNat]?) = ((List.range xs.size).map fun k => xs.size - 1 - k).filterMap (xs[·]?) := by
    rw [List.filterMap_map]
    have key : ∀ ks : List Nat, (∀ k ∈ ks, k < xs.size) → ks.filterMap (fun (k : Nat) => xs[((xs.size : Int) - 1 + (k : Int) * (-1)).toNat]?) = ks.filterMap ((xs[·]?) ∘ fun k => xs.size - 1 - k) := fun ks => by
      induction ks with
      | nil => exact fun _ => rfl
      | cons k ks ih =>
        intro h
        have hk := h k (List.mem_cons_self ..)
        have e : ((xs.size : Int) - 1 + (k : Int) * (-1)).toNat = xs.size - 1 - k := by omega
        rw [List.filterMap_cons, List.filterMap_cons, ih fun j hj => h j (List.mem_cons_of_mem _ hj), e]
        rfl
    exact key _ fun k hk => List.mem_range.mp hk
  rw [e, PySem.W.krv_range, List.filterMap_reverse, PySem.W.krv_all]
theorem getItem_tuple_rev {t sl : Addr} {items : Array Value} {vl vu vs : Value} {Q : Value → Shared → Prop} (ht : IsTup s.heap t items) (hs : s.heap.IsSliceOf sl vl vu vs) (pl : IsPart vl none) (pu : IsPart vu none) (ps : IsPart vs (some (-1)))
    (h : Q (.ref s.heap.objs.size) { s with heap := s.heap.push { cls := .type "tuple", data := .seq items.toList.reverse.toArray } }) (hsz : items.size ≤ sizeLine) : wpAny (model prog w) A (getItem (.ref t) (.ref sl)) Q E s := by
  have htake : sizeOk (.seq items.toList.reverse.toArray) := by
    show items.toList.reverse.toArray.size ≤ sizeLine
    rw [List.size_toArray, List.length_reverse, Array.length_toList]
    exact hsz
  obtain ⟨os, hos, hcs, hds⟩ := id hs
  have hTs : s.TypeIs (.ref sl) "slice" := ⟨os, hos, hcs⟩
  unfold getItem
  try with_reducible refine wpAny_holding ?_
  first | refine wpAny_bind (wpAny_pure ?_) | skip
  refine wpAny_bind (wpAny_sequenceKey ht.typeIs (by decide) ?_)
  refine wpAny_bind (wpAny_callSpecial?_slot (name := Str.ofString "__getitem__") ht.typeIs PyProof.Rows.slot_tuple_getitem
    (wpAny_call_entry PyProof.Rows.slot_tuple_getitem ht.typeIs entry_tuple_getitem ?_ (args_tuple_getitem _ _)))
  show wpAny _ _ (Builtin.Tuple.tupleItemsOf (.ref t) >>= _) _ _ s
  refine wpAny_bind (tupleItemsOf_ ht ?_)
  refine wpAny_bind (wpAny_typeOf hTs ?_)
  rw [if_pos (by decide)]
  refine wpAny_bind (sliceApplied_rev hs pl pu ps ?_)
  have hno : ¬ (((items.size : Int) - 1 == 0 && (-1 : Int) == 1 && items.size == items.size) = true) := by
    intro q
    rw [Bool.and_eq_true, Bool.and_eq_true] at q
    exact absurd q.1.2 (by decide)
  show wpAny _ _ (if ((items.size : Int) - 1 == 0 && (-1 : Int) == 1 && items.size == items.size) = true then _ else _) _ _ s
  rw [if_neg hno, pick_rev]
  first
    | exact wpAny_bind (m := Builtin.Tuple.tupleExact _) (wpAny_newObj_type (wpAny_pure ⟨_, rfl, wpAny_pure h⟩) htake)
    | exact wpAny_bind (m := Builtin.Tuple.tupleExact _) (wpAny_newObj_type (wpAny_bind (wpAny_pure (wpAny_pure ⟨_, rfl, wpAny_pure h⟩))) htake)
    | exact wpAny_bind (wpAny_bind (m := Builtin.Tuple.tupleExact _) (wpAny_newObj_type (wpAny_pure (wpAny_pure ⟨_, rfl, wpAny_pure h⟩)) htake))
    | exact wpAny_bind (wpAny_bind (m := Builtin.Tuple.tupleExact _) (wpAny_newObj_type (wpAny_pure ⟨_, rfl, wpAny_pure h⟩) htake))
end
section
variable {X : Cx} {c : Pk} {W : WX}
def tRevA (K : PySem.W.Frag) (te : TE) : TE := fun σ H Q => te σ H fun x H1 => ∃ a xs, x = .ref a ∧ ((SqL K H1 a xs ∧ ∀ p, H1 p = none → Q (.ref p) (upd H1 p (.lst xs.reverse))) ∨ (SqT K H1 a xs ∧ ∀ p ob, H1 p = none → ob.dict = none → Q (.ref p) (upd H1 p (.frz ob (.tup xs.reverse)))))
theorem pe_revA {e : Expr} {te : TE} {k : Nat} {p1 p2 p3 pos : Pos} (he : PE X e te) : PE X (.Subscript e (.Slice none none (some (.UnaryOp .USub (.Constant (.int 1) k p1) p2)) p3) pos) (tRevA X.K te) := by
  refine ⟨fun pins s σ H Q I h => ?_⟩
  refine Subscript_ (thn (he.run pins s σ H _ I h) fun v s1 ⟨x, H1, I1, r1, q1⟩ => ?_)
  obtain ⟨a, xs, ex, hx⟩ := q1
  subst ex
  cases r1
  have hst : PO X (some (.UnaryOp .USub (.Constant (.int 1) k p1) p2)) (tPart (tUn (rU fun i => .int (-i)) (tC (.int 1)))) := po_some (pe_un un_neg pe_int)
  refine wpAny_Slice (thn (po_none.run pins s1 σ H1 (fun o H2 => o = none ∧ H2 = H1) I1 ⟨rfl, rfl⟩) fun vl s2 ⟨l, H2, I2, pl, el, e2⟩ => ?_)
  subst el e2
  refine thn (po_none.run pins s2 σ H2 (fun o H3 => o = none ∧ H3 = H2) I2 ⟨rfl, rfl⟩) fun vu s3 ⟨u, H3, I3, pu, eu, e3⟩ => ?_
  subst eu e3
  refine thn (hst.run pins s3 σ H3 (fun o H4 => o = some (-1) ∧ H4 = H3) I3 ⟨1, rfl, -1, rfl, rfl, rfl⟩) fun vs s4 ⟨o, H4, I4, ps, eo, e4⟩ => ?_
  subst eo e4
  have I5 : Inv X pins σ H4 { s4 with heap := s4.heap.push { cls := .type "slice", data := .fields #[vl, vu, vs] } } := I4.kept (t' := s4.toks) fun b ob q => Heap.get?_push_of_some _ q
  show wpAny (model X.prog X.w) X.A (subscriptTail e (.Slice none none (some (.UnaryOp .USub (.Constant (.int 1) k p1) p2)) p3) (.ref a) (.ref s4.heap.objs.size)) (EP X pins σ Q) X.xe { s4 with heap := s4.heap.push { cls := .type "slice", data := .fields #[vl, vu, vs] } }
  rcases hx with ⟨hx, q⟩ | ⟨hx, q⟩
  · obtain ⟨its, r, ht, hz⟩ := I5.list hx
    have hlen := r.length
    refine tail_any (ops := [.ref a, .ref s4.heap.objs.size]) ht.isList.typeIs (PySem.slot_list_getitem.lookup) ?_ (by with_unfolding_all rfl)
    refine wpAny_getItem_list_slice ht.isList (Heap.IsSliceOf.new _ vl vu vs) pl pu ps (by decide) ?_ (by rw [List.size_toArray]; omega)
    rw [PySem.W.krv_pick]
    refine ⟨.ref _, _, I5.laid (t' := s4.toks) (o := .lst xs.reverse) (fun b ob q => Heap.get?_push_of_some _ q) (Nat.le_refl _) ?_, rfl, q _ (I5.hok.fresh (Nat.le_refl _))⟩
    exact ⟨by rw [List.length_reverse]; exact hz, _, 0, r.reverse, Heap.get?_push_size _ rfl⟩
  · obtain ⟨its, r, ht, hz⟩ := I5.tuple hx
    have hlen := r.length
    refine tail_any (ops := [.ref a, .ref s4.heap.objs.size]) ht.typeIs (PyProof.Rows.slot_tuple_getitem.lookup) ?_ (by with_unfolding_all rfl)
    refine getItem_tuple_rev ht (Heap.IsSliceOf.new _ vl vu vs) pl pu ps ?_ (by rw [List.size_toArray]; omega)
    exact ⟨.ref _, _, lay_tup I5 r.reverse (by rw [List.length_reverse]; exact hz), rfl, q _ _ (I5.hok.fresh (Nat.le_refl _)) rfl⟩
/-- xs[::-1] -/
theorem le_backA {e : Expr} {o : Opd} {k : Nat} {p1 p2 p3 pos : Pos} (he : LO X c W e o) : LE X c W (.Subscript e (.Slice none none (some (.UnaryOp .USub (.Constant (.int 1) k p1) p2)) p3) pos) (m1 dBack o) :=
  PE.imp (pe_revA he) fun σ H Q ⟨l, S, rp, po⟩ => by
    refine ⟨l, S, rp, Po.bind (R := RO X.K σ o) po fun y S1 v H1 l1 _ rp1 g1 q1 po1 => ?_⟩
    obtain ⟨d, rv, po2⟩ := Po.rd rp1 (Gr.refl _) q1 po1
    obtain ⟨z, ez, po3⟩ := Po.opt po2
    cases d with
    | lst ds =>
      cases ez
      obtain ⟨a, vs, rfl, ha, hd⟩ := rv.lst rp1.rt.lh
      refine ⟨a, vs, rfl, .inl ⟨SqL.of ha, fun p hp => ?_⟩⟩
      obtain ⟨rp2, g2⟩ := rp1.lay (o := .lst vs.reverse) hp (fun _ z => nomatch z)
      exact po3 _ _ _ rp2 g2 (.lst upd_same (hd.reverse.grow g2))
    | tup ds =>
      cases ez
      obtain ⟨a, vs, rfl, ha, hd⟩ := rv.tup rp1.rt.lh
      refine ⟨a, vs, rfl, .inr ⟨ha, fun p ob hp hob => ?_⟩⟩
      obtain ⟨rp2, g2⟩ := rp1.lay (o := .frz ob (.tup vs.reverse)) hp (fun _ z => nomatch z)
      exact po3 _ _ _ rp2 g2 (.tup (SqN.of upd_same hob) (hd.reverse.grow g2))
    | _ => cases ez
end
end Lw

set_option Elab.async false
set_option linter.all false
set_option maxRecDepth 100000
set_option maxHeartbeats 4000000
/-! Lw: a, b = x, y where some are new lists of their own. -/
namespace Lw
open PySem PySem.Spec PyProof.Rows L2
inductive Rhs where
  | v (m : M D)
  | l (m : M (List D))
def rhsM : List Rhs → M (List Sl)
  | [] => ret []
  | .v m :: rs => bnd m fun x => bnd (rhsM rs) fun ss => ret (.d x :: ss)
  | .l m :: rs => bnd m fun xs => bnd (rhsM rs) fun ss => ret (.l xs :: ss)
def putAll : List Nat → List Sl → M Unit
  | [], [] => ret ()
  | i :: is, x :: xs => bnd (putS i x) fun _ => putAll is xs
  | _, _ => stuck
def sPar (is : List Nat) (rs : List Rhs) : M Fl := bnd (rhsM rs) fun ss => bnd (putAll is ss) fun _ => ret .nx
def lrefs : List V → List Sl → List Addr
  | .ref p :: vs, .l _ :: ss => p :: lrefs vs ss
  | _ :: vs, _ :: ss => lrefs vs ss
  | _, _ => []
def RelS (K : PySem.W.Frag) (c : Pk) (l : Lh) (S : S) (σ : L2.St) (H : Hp) : List V → List Sl → Prop
  | [], [] => True
  | v :: vs, .d x :: ss => Dt K l v x ∧ RelS K c l S σ H vs ss
  | v :: vs, .l xs :: ss => (∃ p ws, v = .ref p ∧ H p = some (.lst ws) ∧ Apart c l S σ p ∧ DtAll K l ws xs ∧ p ∉ lrefs vs ss) ∧ RelS K c l S σ H vs ss
  | _, _ => False
def PoR (K : PySem.W.Frag) (c : Pk) (W : WX) (l : Lh) (σ : L2.St) (Q : List V → Hp → Prop) : Res (List Sl) → Prop
  | .ok ss S' => ∀ vs H' l', Rep K c l' S' σ H' → Gr l l' → RelS K c l' S' σ H' vs ss → Q vs H'
  | .er x S' => ∀ cls dd H' l', Rep K c l' S' σ H' → Gr l l' → Fly K l' cls dd x → W cls dd σ H'
  | .no => False
def tRh (K : PySem.W.Frag) (c : Pk) (W : WX) (rs : List Rhs) : TA := fun σ H Q => ∃ l S, Rep K c l S σ H ∧ PoR K c W l σ Q (rhsM rs S)
section
variable {K : PySem.W.Frag} {c : Pk} {l : Lh} {S : S} {σ : L2.St} {H : Hp}
theorem PoR.grow {W : WX} {l l' : Lh} {Q : List V → Hp → Prop} {r : Res (List Sl)} (g : Gr l l') (h : PoR K c W l σ Q r) : PoR K c W l' σ Q r := by
  cases r with
  | ok d S' => exact fun v H' l2 rp g2 q => h v H' l2 rp (g.trans g2) q
  | er x S' => exact fun cls dd H' l2 rp g2 q => h cls dd H' l2 rp (g.trans g2) q
  | no => exact h
/-- an object less in mind -/
theorem RelS.unmind {p : Addr} {ws : List V} : ∀ {vs : List V} {ss : List Sl}, RelS K (c.and p (.lst ws)) l S σ H vs ss → RelS K c l S σ H vs ss ∧ p ∉ lrefs vs ss
  | [], [], _ => ⟨trivial, by simp [lrefs]⟩
  | v :: vs, .d x :: ss, ⟨h1, h2⟩ => by
    obtain ⟨a, b⟩ := RelS.unmind h2
    refine ⟨⟨h1, a⟩, ?_⟩
    cases v <;> exact b
  | v :: vs, .l xs :: ss, ⟨⟨q, us, e1, e2, e3, e4, e5⟩, h2⟩ => by
    obtain ⟨a, b⟩ := RelS.unmind h2
    have e6 : upd c.H0 p (.lst ws) q = none := e3.h
    have n : q ≠ p := fun z => by
      rw [z, upd_same] at e6
      cases e6
    rw [upd_ne n] at e6
    subst e1
    refine ⟨⟨⟨q, us, rfl, e2, ⟨e3.nl, e6, e3.w, e3.o⟩, e4, e5⟩, a⟩, ?_⟩
    show p ∉ q :: lrefs vs ss
    intro z
    rcases List.mem_cons.mp z with z | z
    · exact n z.symm
    · exact b z
theorem RelS.set {i : Nat} {v : V} {x : D} : ∀ {vs : List V} {ss : List Sl}, RelS K c l S σ H vs ss → RelS K c l { S with σ := S.σ.set i (some (.d x)) } (σ.set i (some v)) H vs ss
  | [], [], _ => trivial
  | w :: vs, .d y :: ss, ⟨h1, h2⟩ => ⟨h1, RelS.set h2⟩
  | w :: vs, .l xs :: ss, ⟨⟨q, us, e1, e2, e3, e4, e5⟩, h2⟩ => ⟨⟨q, us, e1, e2, ⟨e3.nl, e3.h, e3.w, fun j ys e z => by
      have e : (S.σ.set i (some (Sl.d x)))[j]? = some (some (.l ys)) := e
      by_cases h : i = j
      · subst h
        rw [List.getElem?_set] at e
        simp at e
      · rw [List.getElem?_set_ne h] at e z
        exact e3.o j ys e z⟩, e4, e5⟩, RelS.set h2⟩
theorem RelS.setL {i : Nat} {p : Addr} {xs : List D} : ∀ {vs : List V} {ss : List Sl}, p ∉ lrefs vs ss → RelS K c l S σ H vs ss → RelS K c l { S with σ := S.σ.set i (some (.l xs)) } (σ.set i (some (.ref p))) H vs ss
  | [], [], _, _ => trivial
  | w :: vs, .d y :: ss, n, ⟨h1, h2⟩ => ⟨h1, RelS.setL (by cases w <;> exact n) h2⟩
  | w :: vs, .l ys :: ss, n, ⟨⟨q, us, e1, e2, e3, e4, e5⟩, h2⟩ => by
    subst e1
    have n : p ∉ q :: lrefs vs ss := n
    have n1 : p ≠ q := fun z => n (by rw [z]; exact List.mem_cons_self ..)
    refine ⟨⟨q, us, rfl, e2, ⟨e3.nl, e3.h, e3.w, fun j zs e z => ?_⟩, e4, e5⟩, RelS.setL (fun z => n (List.mem_cons_of_mem _ z)) h2⟩
    have e : (S.σ.set i (some (Sl.l xs)))[j]? = some (some (.l zs)) := e
    by_cases h : i = j
    · subst h
      rw [List.getElem?_set] at z
      simp at z
      exact n1 z.2
    · rw [List.getElem?_set_ne h] at e z
      exact e3.o j zs e z
def setV : List Nat → List V → L2.St → L2.St
  | i :: is, v :: vs, σ => setV is vs (σ.set i (some v))
  | _, _, σ => σ
theorem put_all : ∀ {is : List Nat} {vs : List V} {ss : List Sl} {S S' : Lw.S} {σ : L2.St}, Rep K c l S σ H → RelS K c l S σ H vs ss → putAll is ss S = .ok () S' → vs.length = is.length ∧ Rep K c l S' (setV is vs σ) H
  | [], vs, [], S, S', σ, rp, rs, e => by
    cases e
    cases vs with
    | nil => exact ⟨rfl, rp⟩
    | cons v vs => exact rs.elim
  | [], vs, s :: ss, S, S', σ, rp, rs, e => by cases e
  | i :: is, vs, [], S, S', σ, rp, rs, e => by cases e
  | i :: is, vs, s :: ss, S, S', σ, rp, rs, e => by
    have e : bnd (putS i s) (fun _ => putAll is ss) S = .ok () S' := e
    by_cases hi : i < S.σ.length
    · have e1 : putS i s S = .ok () { S with σ := S.σ.set i (some s) } := if_pos hi
      rw [bnd_ok e1] at e
      cases vs with
      | nil => cases s <;> exact rs.elim
      | cons v vs =>
        cases s with
        | d x =>
          obtain ⟨a, b⟩ := put_all (rp.set rs.1) rs.2.set e
          exact ⟨by simp [a], b⟩
        | l xs =>
          obtain ⟨⟨p, ws, rfl, h1, h2, h3, h4⟩, h5⟩ := rs
          obtain ⟨a, b⟩ := put_all (rp.own2 h2 h1 h3) (RelS.setL h4 h5) e
          exact ⟨by simp [a], b⟩
        | f k => exact rs.elim
    · have e1 : putS i s S = .no := if_neg hi
      rw [bnd_no e1] at e
      cases e
end
section
variable {X : Cx} {c : Pk} {W : WX} {T : List (Addr × Str)}
/-- the right sides -/
inductive PRh (X : Cx) (T : List (Addr × Str)) (W : WX) : List Expr → List Rhs → Prop
  | nil : PRh X T W [] []
  | v {e : Expr} {es : List Expr} {m : M D} {rs : List Rhs} : (∀ c : Pk, c.T = T → LE X c W e m) → starEach (e :: es) X.env = (false, eval e X.env) :: starEach es X.env → PRh X T W es rs → PRh X T W (e :: es) (.v m :: rs)
  | l {e : Expr} {es : List Expr} {m : M (List D)} {rs : List Rhs} : (∀ c : Pk, c.T = T → LF X c W e m) → starEach (e :: es) X.env = (false, eval e X.env) :: starEach es X.env → PRh X T W es rs → PRh X T W (e :: es) (.l m :: rs)
theorem prh_run {es : List Expr} {rs : List Rhs} (h : PRh X T W es rs) : ∀ c : Pk, c.T = T → PA X es (tRh X.K c W rs) := by
  induction h with
  | nil => exact fun c _ => PA.imp pa_nil fun σ H Q ⟨l, S, rp, po⟩ => po [] H l rp (Gr.refl _) trivial
  | @v e es m rs he hs hr ih =>
    intro c ec
    refine PA.imp (pa_cons (he c ec) (ih c ec) hs) fun σ H Q ⟨l, S, rp, po⟩ => ⟨l, S, rp, ?_⟩
    have po : PoR X.K c W l σ Q (bnd m (fun x => bnd (rhsM rs) fun ss => ret (.d x :: ss)) S) := po
    cases em : m S with
    | no =>
      rw [bnd_no em] at po
      exact po
    | er y S1 =>
      rw [bnd_er em] at po
      exact po
    | ok x S1 =>
      rw [bnd_ok em] at po
      intro v H1 l1 rp1 g1 dv
      have po := PoR.grow g1 po
      refine ⟨l1, S1, rp1, ?_⟩
      cases er : rhsM rs S1 with
      | no =>
        rw [bnd_no er] at po
        exact po
      | er y S2 =>
        rw [bnd_er er] at po
        exact po
      | ok ss S2 =>
        rw [bnd_ok er] at po
        intro vs H2 l2 rp2 g2 rs2
        exact po (v :: vs) H2 l2 rp2 g2 ⟨dv.grow g2, rs2⟩
  | @l e es m rs he hs hr ih =>
    intro c ec
    refine ⟨fun pos pins s σ H Q I h => ?_⟩
    obtain ⟨l, S, rp, po⟩ := h
    have po : PoR X.K c W l σ Q (bnd m (fun xs => bnd (rhsM rs) fun ss => ret (.l xs :: ss)) S) := po
    rw [hs]
    show wpAny _ _ (spliced ((false, eval e X.env) :: backTo pos (starEach es X.env))) _ _ s
    have h0 : liftF X.K c W m σ H fun v H1 => ∃ p ws l1 S1 xs, v = .ref p ∧ Rep X.K c l1 S1 σ H1 ∧ Gr l l1 ∧ H1 p = some (.lst ws) ∧ Apart c l1 S1 σ p ∧ DtAll X.K l1 ws xs ∧ PoR X.K c W l1 σ Q (bnd (rhsM rs) (fun ss => ret (.l xs :: ss)) S1) := by
      refine ⟨l, S, rp, ?_⟩
      cases em : m S with
      | no =>
        rw [bnd_no em] at po
        exact po
      | er y S1 =>
        rw [bnd_er em] at po
        exact po
      | ok xs S1 =>
        rw [bnd_ok em] at po
        intro p ws H1 l1 rp1 g1 hp u dt
        exact ⟨p, ws, l1, S1, xs, rfl, rp1, g1, hp, u, dt, PoR.grow g1 po⟩
    refine Calls.spliced_cons (thn (PE.run (he c ec) pins s σ H _ I h0) fun u1 s1 ⟨v, H1, I1, r1, p, ws, l1, S1, xs, ev, rp1, g1, hp, u, dt, po1⟩ => ?_)
    subst ev
    have h2 : tRh X.K (c.and p (.lst ws)) W rs σ H1 fun vs H2 => Q (.ref p :: vs) H2 := by
      refine ⟨l1, S1, rp1.mind u hp, ?_⟩
      have un : ∀ {l2 : Lh} {S2 : Lw.S} {H2 : Hp}, Rep X.K (c.and p (.lst ws)) l2 S2 σ H2 → Rep X.K c l2 S2 σ H2 ∧ H2 p = some (.lst ws) ∧ Apart c l2 S2 σ p := fun rp2 => Rep.unmind u.h (rp1.rt.gr.1.none u.nl) (Apart.wm0 rp1 u) rp2
      cases er : rhsM rs S1 with
      | no =>
        rw [bnd_no er] at po1
        exact po1
      | er y S2 =>
        rw [bnd_er er] at po1
        intro cls dd H2 l2 rp2 g2 fl
        exact po1 cls dd H2 l2 (un rp2).1 g2 fl
      | ok ss S2 =>
        rw [bnd_ok er] at po1
        intro vs H2 l2 rp2 g2 rs2
        obtain ⟨a1, a2, a3⟩ := un rp2
        obtain ⟨b1, b2⟩ := rs2.unmind
        exact po1 (.ref p :: vs) H2 l2 a1 g2 ⟨⟨p, ws, rfl, a2, a3, dt.grow g2, b2⟩, b1⟩
    refine wpAny_mono (PA.run (ih (c.and p (.lst ws)) ec) pos pins s1 σ H1 _ I1 h2) (fun us s2 ⟨vs, H2, I2, r, q⟩ => ?_) fun _ _ x => x
    exact ⟨.ref p :: vs, H2, I2, .cons r1 r, q⟩
theorem par_imp {is : List Nat} {rs : List Rhs} {En : Ends} {σ : L2.St} {H : Hp} (h : liftS X.K c W (sPar is rs) En σ H) : tRh X.K c W rs σ H fun vs H1 => vs.length = is.length ∧ En.nx (setV is vs σ) H1 := by
  obtain ⟨l, S, rp, po⟩ := h
  refine ⟨l, S, rp, ?_⟩
  have po : PoS X.K c W l En (bnd (rhsM rs) (fun ss => bnd (putAll is ss) fun _ => ret .nx) S) := po
  cases er : rhsM rs S with
  | no =>
    rw [bnd_no er] at po
    exact po
  | er y S2 =>
    rw [bnd_er er] at po
    exact fun cls dd H' l' rp' g f => po cls dd σ H' l' rp' g f
  | ok ss S2 =>
    rw [bnd_ok er] at po
    intro vs H2 l2 rp2 g2 rs2
    cases ep : putAll is ss S2 with
    | no =>
      rw [bnd_no ep] at po
      exact po.elim
    | er y S3 =>
      exact absurd ep (noer is ss S2 y S3)
    | ok u S3 =>
      rw [bnd_ok ep] at po
      obtain ⟨a, b⟩ := put_all rp2 rs2 ep
      exact ⟨a, po _ H2 l2 b g2⟩
where
  noer : ∀ (is : List Nat) (ss : List Sl) (S : Lw.S) (y : D) (S3 : Lw.S), putAll is ss S ≠ .er y S3
    | [], [], S, y, S3 => fun z => by cases z
    | [], s :: ss, S, y, S3 => fun z => by cases z
    | i :: is, [], S, y, S3 => fun z => by cases z
    | i :: is, s :: ss, S, y, S3 => fun z => by
      have z : bnd (putS i s) (fun _ => putAll is ss) S = .er y S3 := z
      by_cases hi : i < S.σ.length
      · have e1 : putS i s S = .ok () { S with σ := S.σ.set i (some s) } := if_pos hi
        rw [bnd_ok e1] at z
        exact noer is ss _ y S3 z
      · have e1 : putS i s S = .no := if_neg hi
        rw [bnd_no e1] at z
        cases z
/-- a, b = x, y -/
theorem ls_par2 (i j : Nat) {x y : Str} {a b : Expr} {rs : List Rhs} {px py pt pos : Pos} {kt k2 pt2} (hc : X.calm = true) (hN : X.N.Nodup) (eT : c.T = T) (ha : PRh X T W [a, b] rs) (hi : X.N[i]? = some x := by rfl) (hj : X.N[j]? = some y := by rfl) (hij : i ≠ j := by decide)
    (hx : X.env.scope.names.lookup x = some .local := by rfl) (hy : X.env.scope.names.lookup y = some .local := by rfl) (hw : swappedStores [.Tuple [.Name x px, .Name y py] kt pt] (.Tuple [a, b] k2 pt2) X.env = pure (some [x, y]) := by rfl) :
    LS X c W (.Assign [.Tuple [.Name x px, .Name y py] kt pt] (.Tuple [a, b] k2 pt2) pos) (sPar [i, j] rs) :=
  PS.imp (ps_par hc hN hi hj hij hx hy (prh_run ha c eT) hw) fun En σ H h => by
    obtain ⟨l, S, rp, po⟩ := par_imp h
    refine ⟨l, S, rp, ?_⟩
    cases er : rhsM rs S with
    | no =>
      rw [er] at po
      exact po
    | er y S2 =>
      rw [er] at po
      exact po
    | ok ss S2 =>
      rw [er] at po
      intro vs H2 l2 rp2 g2 rs2
      obtain ⟨h1, h2⟩ := po vs H2 l2 rp2 g2 rs2
      match vs, h1, h2 with
      | [v, u], _, h2 => exact ⟨v, u, rfl, h2⟩
end
end Lw

set_option Elab.async false
set_option linter.all false
set_option maxRecDepth 100000
set_option maxHeartbeats 4000000
/-! Lw: == and != of two objects of a class that has its own __eq__ (and no __ne__). -/
namespace Lw
open PySem PySem.Spec PyProof.Rows L2
section
variable {prog : Program} {w : World} {A : Around} {E : Value → Shared → Prop} {s : Shared} {K : PySem.W.Frag} {x y C f : Addr} {ox oy od od' : Obj}
theorem ne_bind (self : Value) : bindSpecial (.builtin "object.__ne__") self = pure (.builtin "object.__ne__", [self]) :=
  (Slot.of (T := "object") (name := "__ne__") (owner := "object") (n := "__ne__") (by rw [typeLookup_type, builtinLookup_eq_fast]; kernel_rfl) (by decide +kernel) (by decide +kernel) (by decide +kernel)
    (.inl (by decide +kernel)) (by rw [isSubtype_type]; kernel_rfl)).bind self
theorem ne_plain : plainId "object.__ne__" = true := by decide +kernel
/-- object.__ne__ asks __eq__ -/
theorem ne_entry {Q : PySem.Fin → Shared → Prop} (X : K.In s.heap) (I : PySem.W.InstAt s.heap x ox C (some od)) (hs : PySem.W.findIn K (.ref C) "__eq__" = some (some (.ref f))) (hf : PySem.W.isFn K (.ref f) = true) (hu : A.units < cLine)
    (hcall : wpAny (model prog w) A (PySem.call (.ref f) [.ref x, .ref y]) (fun v s' => ∃ b, v = .bool b ∧ Q (.done (.ret (.bool (!b)))) s') E s) :
    wpAny (model prog w) A (Builtin.«object.__ne__» ⟨[.ref x, .ref y], []⟩) Q E s := by
  unfold Builtin.«object.__ne__»
  repeat (first
    | with_reducible refine wpAny_cRoomFor hu ?_
    | (refine wpAny_bind (m := callSpecialIfBound? (.ref x) (Str.ofString "__eq__") [.ref y]) (PySem.W.ifBound_K X I hs hf (wpAny_mono hcall (fun r s' hr => by
        obtain ⟨b, rfl, hq⟩ := hr
        repeat (first | exact hq | exact wpAny_pure hq | exact wpAny_truthy_bool hq | (refine wpAny_bind (m := truthy (.bool _)) (wpAny_truthy_bool ?_)) | wp_step)) fun _ _ e => e)))
    | wp_step)
theorem ne_check {M : Model} {rest : List Value} {Q : Unit → Shared → Prop} (X : K.In s.heap) (I : PySem.W.InstAt s.heap x ox C (some od)) (cm : PySem.W.mroIn K C (.type "object") = some true) (ha : argsOk "object.__ne__" ⟨.ref x :: rest, []⟩) (hq : Q () s) :
    wpAny M A (checkBuiltinCall "object.__ne__" ⟨.ref x :: rest, []⟩) Q E s := by
  simp only [checkBuiltinCall, PySem.F.cmpKind_ne, PySem.F.cmpSplit_ne]
  refine wpAny_bind ?_
  have hi : PySem.W.Looks M s.heap (isInstance (.ref x) (.type "object")) true := I.type.andThen (PySem.W.looks_mroIn X cm)
  refine hi.here ?_
  simp only [Bool.not_true, Bool.false_eq_true, if_false]
  cases hsig : Manifest.signature? "object.__ne__" with
  | none => exact wpAny_pure hq
  | some sig =>
    simp only [argsOk, hsig] at ha
    have h2 : Bind.checkArgs "object.__ne__" sig ⟨.ref x :: rest, []⟩ = pure () := ha
    show wpAny M A (Bind.checkArgs "object.__ne__" sig ⟨.ref x :: rest, []⟩) Q E _
    rw [h2]
    exact wpAny_pure hq
theorem ne_K {Q : Value → Shared → Prop} (hu : A.units + 1 < cLine) (X : K.In s.heap) (I : PySem.W.InstAt s.heap x ox C (some od)) (I' : PySem.W.InstAt s.heap y oy C (some od')) (hne : PySem.W.findIn K (.ref C) "__ne__" = some (some (.builtin "object.__ne__"))) (hs : PySem.W.findIn K (.ref C) "__eq__" = some (some (.ref f))) (hf : PySem.W.isFn K (.ref f) = true) (cm : PySem.W.mroIn K C (.type "object") = some true)
    (h : wpAny (model prog w) A.in1 (PySem.call (.ref f) [.ref x, .ref y]) (fun v s' => ∃ b, v = .bool b ∧ Q (.bool (!b)) s') E s) : wpAny (model prog w) A (compareOp .NotEq (.ref x) (.ref y)) Q E s := by
  have one : wpAny (model prog w) A (tryCompare (.ref x) "__ne__" (.ref y)) (fun r s' => ∃ v, r = some v ∧ Q v s') E s := by
    unfold tryCompare
    refine wpAny_bind ?_
    simp only [callSpecialIfBound?, bindSpecialIfBound?]
    refine wpAny_holding (wpAny_bind (wpAny_bind (wpAny_bind (I.type.here ((PySem.W.looks_findIn X hne).here ?_)))))
    refine wpAny_bind (wpAny_askSetting (wpAny_ite ?_))
    have fin : ∀ T : Option Value → Shared → Prop, (∀ b s', Q (.bool (!b)) s' → T (some (.bool (!b))) s') → wpAny (model prog w) A (PySem.call (.builtin "object.__ne__") ([.ref x] ++ [.ref y]) >>= fun v => pure (some v)) T E s := fun T hT => by
      refine wpAny_bind (wpAny_call (codeAny_call_builtin ne_plain PySem.F.cmpEntry_ne (ne_check X I cm (PySem.F.cmpArgs_ne _ _) (ne_entry (A := A.in1) X I hs hf hu (wpAny_mono h (fun v s' hv => ?_) fun _ _ e => e)))))
      obtain ⟨b, rfl, hq⟩ := hv
      exact ⟨b, rfl, wpAny_pure (hT b s' hq)⟩
    split
    · rw [ne_bind]
      exact wpAny_bind (wpAny_pure (wpAny_pure (by exact fin _ fun b s' hq => wpAny_pure ⟨_, rfl, hq⟩)))
    · rw [ne_bind]
      exact wpAny_tryCatch (wpAny_bind (wpAny_pure (wpAny_pure (by exact fin _ fun b s' hq => wpAny_pure ⟨_, rfl, hq⟩))))
  unfold compareOp richCompare
  simp only [oneThing_ref]
  refine wpAny_holding (wpAny_bind (wpAny_cRoomFor (by omega) ?_))
  rw [cmpInfo_NotEq]
  dsimp only
  refine wpAny_bind (I.type.here (wpAny_bind (I'.type.here ?_)))
  rw [show (Value.ref C != Value.ref C) = false from by simp]
  simp only [Bool.false_eq_true, if_false]
  refine wpAny_bind (wpAny_pure ?_)
  simp only [Bool.false_eq_true, if_false]
  refine wpAny_bind (wpAny_mono one (fun r s' z => ?_) fun _ _ e => e)
  obtain ⟨v, rfl, hq⟩ := z
  exact wpAny_pure hq
end
section
variable {X : Cx} {c : Pk} {W : WX} {K : PySem.W.Frag}
/-- the class cn has its own __eq__, mirrored by fm, and the language's __ne__ -/
structure EqM (P : Program) (w : World) (K : PySem.W.Frag) (mg : Str → Option Value) (base : Heap) (T : List (Addr × Str)) (k : Nat) (cn : String) (fm : Fn) : Prop where
  ex : ∃ g, SlX.SIsi K (cAd K cn) ∧ Meth K (cAd K cn) "__eq__" g ∧ PySem.W.findIn K (.ref (cAd K cn)) "__ne__" = some (some (.builtin "object.__ne__")) ∧ FnG P w K mg base T k g 2 fm
theorem EqM.cast {P : Program} {w : World} {mg : Str → Option Value} {base : Heap} {T T' : List (Addr × Str)} {k : Nat} {cn : String} {fm : Fn} (F : EqM P w K mg base T k cn fm) (e : T' = T) : EqM P w K mg base T' k cn fm := by
  subst e
  exact F
def rOwnC (K : PySem.W.Frag) (T : List (Addr × Str)) (cn : String) (fm : Fn) (neg : Bool) : R2 := fun x y H Q => ∃ a dx vs b dy ws, x = .ref a ∧ y = .ref b ∧ SlX.Slt H a (cAd K cn) dx vs ∧ SlX.Slt H b (cAd K cn) dy ws ∧ spM K T 2 fm [x, y] H (fun v H' => ∃ t, v = .bl t ∧ Q (.bl (t != neg)) H') (fun _ _ _ => False)
theorem spM_mono {T : List (Addr × Str)} {n : Nat} {fm : Fn} {vs : List V} {H : Hp} {Q : VK} {E : XK} (h : spM K T n fm vs H Q (fun _ _ _ => False)) : spM K T n fm vs H Q E := by
  obtain ⟨h1, l, ds, xs, h2, h3, h4⟩ := h
  refine ⟨h1, l, ds, xs, h2, h3, ?_⟩
  cases e : fm xs ds with
  | ok d ds' =>
    rw [e] at h4
    exact h4
  | er x ds' =>
    rw [e] at h4
    exact fun cls dd H' l' r f => (h4 cls dd H' l' r f).elim
  | no =>
    rw [e] at h4
    exact h4
theorem run_g1 {k n : Nat} {f : Addr} {fm : Fn} {pins : List (Addr × Obj)} {σ : L2.St} {H : Hp} {s : Shared} {Q : VK} {us : List Value} {vs : List V} (F : FnG X.prog X.w X.K X.mg X.base c.T k f n fm) (hr : Room (k + 1) X.A) (gd : X.A.guards = some []) (tk : Takes X W)
    (I : Inv X pins σ H s) (r : Vals vs us) (h : spM X.K c.T n fm vs H Q (WE W σ)) : wpAny (model X.prog X.w) X.A.in1 (PySem.call (.ref f) us) (EP X pins σ Q) X.xe s := by
  refine wpAny_call (codeAny_mono (F X.A.in1 X.stack s H us vs Q (WE W σ) hr.in1 gd I.env0.in1 r h) fun r s' hq => ?_)
  cases r with
  | error e => exact passAt tk σ pins H s e s' I hq
  | ok fl =>
    cases fl with
    | ret u => exact I.after hq
    | next => exact hq.elim
    | brk => exact hq.elim
    | cont => exact hq.elim
theorem op_eqO {k : Nat} {cn : String} {fm : Fn} (F : EqM X.prog X.w X.K X.mg X.base c.T k cn fm) (hr : Room (k + 1) X.A) (gd : X.A.guards = some []) (tk : Takes X W) : OpR X (compareOp .Eq) (rOwnC X.K c.T cn fm false) := by
  intro pins s σ H x y v u Q I rx ry h
  obtain ⟨g, si, hm, hne, G⟩ := F.ex
  obtain ⟨a, dx, vs, b, dy, ws, rfl, rfl, ha, hb, q⟩ := h
  cases (show v = Value.ref a from rx)
  cases (show u = Value.ref b from ry)
  obtain ⟨sl, od, _, J, _⟩ := SlX.slt_inst I ha
  obtain ⟨sl', od', _, J', _⟩ := SlX.slt_inst I hb
  obtain ⟨m, hF⟩ := I.fr
  show wpAny _ _ (richCompare .Eq _ _) _ _ _
  refine PySem.W.cmp_K (op := .Eq) (tb := .ref (cAd X.K cn)) hr.units0 hF I.ok.mod.kin J J'.type (by simp [PySem.W.notFirst]) hm.at_ hm.fn ?_
  refine wpAny_mono (run_g (us := [.ref a, .ref b]) (vs := [.ref a, .ref b]) G (hr.mono (Nat.le_succ _)) gd tk I (.cons rfl (.cons rfl .nil)) (spM_mono q)) (fun w s' z => ?_) fun _ _ x => x
  obtain ⟨z', H', I', rz, t, rfl, qz⟩ := z
  rw [Bool.bne_false] at qz
  exact SlX.cmpback rz ⟨_, H', I', rz, qz⟩
theorem op_neO {k : Nat} {cn : String} {fm : Fn} (F : EqM X.prog X.w X.K X.mg X.base c.T k cn fm) (hr : Room (k + 1) X.A) (gd : X.A.guards = some []) (tk : Takes X W) : OpR X (compareOp .NotEq) (rOwnC X.K c.T cn fm true) := by
  intro pins s σ H x y v u Q I rx ry h
  obtain ⟨g, si, hm, hne, G⟩ := F.ex
  obtain ⟨a, dx, vs, b, dy, ws, rfl, rfl, ha, hb, q⟩ := h
  cases (show v = Value.ref a from rx)
  cases (show u = Value.ref b from ry)
  obtain ⟨sl, od, _, J, _⟩ := SlX.slt_inst I ha
  obtain ⟨sl', od', _, J', _⟩ := SlX.slt_inst I hb
  refine ne_K (by have := hr.units; omega) I.kIn J J' hne hm.at_ hm.fn si.cm ?_
  refine wpAny_mono (run_g1 (us := [.ref a, .ref b]) (vs := [.ref a, .ref b]) G hr gd tk I (.cons rfl (.cons rfl .nil)) (spM_mono q)) (fun w s' z => ?_) fun _ _ x => x
  obtain ⟨z', H', I', rz, t, rfl, qz⟩ := z
  obtain rfl : w = Value.bool t := rz
  rw [Bool.bne_true] at qz
  exact ⟨t, rfl, .bl (!t), H', I', rfl, qz⟩
/-- both of the class: its __eq__; else as plain data -/
def ownC (cn : String) (fe : Fn) (g : D → D → Option D) (neg : Bool) (a b : D) : M D := fun s => match a, b with
  | .obj c1 xs, .obj c2 ys => if c1 = cn ∧ c2 = cn then (match call fe [.obj c1 xs, .obj c2 ys] s with
    | .ok (.bl t) s' => .ok (.bl (t != neg)) s'
    | _ => .no) else .no
  | a, b => opt (g a b) s
def mOwn (cn : String) (fe : Fn) (g : D → D → Option D) (neg : Bool) (o p : Opd) : M D := bnd o.ev fun x => bnd p.ev fun y => bnd (o.rd x) fun a => bnd (p.rd y) fun b => ownC cn fe g neg a b
theorem rv_dt {l : Lh} {H : Hp} {v : V} {cn : String} {ds : List D} (r : Rv K l H v (.obj cn ds)) : Dt K l v (.obj cn ds) := by
  rcases r with r | ⟨a, vs, ds', rfl, e, _⟩
  · exact r
  · cases e
theorem own_r {cn : String} {fe : Fn} {g : D → D → Option D} {neg : Bool} {r0 : R2} {l : Lh} {σ : L2.St} {S0 : S} {H : Hp} {v w : V} {a b : D} {Q : VK} (hs : Sem2 X.K g r0) (rp : Rep X.K c l S0 σ H) (ra : Rv X.K l H v a) (rb : Rv X.K l H w b) (po : Po X.K c W l σ (Dt X.K) Q (ownC cn fe g neg a b S0)) : r0 v w H Q ∨ rOwnC X.K c.T cn fe neg v w H Q := by
  have plainC : ownC cn fe g neg a b S0 = opt (g a b) S0 → r0 v w H Q := fun e => by
    rw [e] at po
    obtain ⟨d, e, po5⟩ := Po.opt po
    exact hs l H v w a b d Q rp.rt.lh ra rb e (po5.give rp)
  cases a with
  | obj c1 xs =>
    cases b with
    | obj c2 ys =>
      unfold ownC at po
      dsimp only at po
      split at po
      · rename_i hc
        obtain ⟨e1, e2⟩ := hc
        subst c1 c2
        obtain ⟨a1, dx, vs, rfl, h1, h2, _⟩ := obj_ref ra
        obtain ⟨b1, dy, ws, rfl, k1, k2, _⟩ := obj_ref rb
        refine .inr ⟨a1, dx, vs.map some, b1, dy, ws.map some, rfl, rfl, .inr ⟨rp.rt.lh _ _ h1, rp.rt.lh _ _ h2⟩, .inr ⟨rp.rt.lh _ _ k1, rp.rt.lh _ _ k2⟩, rfl, l, S0.ds, [_, _], rp.rt.self, .cons (rv_dt ra) (.cons (rv_dt rb) .nil), ?_⟩
        unfold call at po
        cases e : fe [.obj cn xs, .obj cn ys] S0.ds with
        | no =>
          rw [e] at po
          exact po
        | er x ds' =>
          rw [e] at po
          exact po.elim
        | ok d ds' =>
          rw [e] at po
          intro v H' l' rt dt
          cases d with
          | bl t =>
            cases dt
            exact ⟨t, rfl, po _ H' l' (rp.on rt) rt.gr (.bl _)⟩
          | _ => exact po.elim
      · exact po.elim
    | _ => exact .inl (plainC rfl)
  | _ => exact .inl (plainC rfl)
theorem le_own {op : CmpOp} {cn : String} {fe : Fn} {g : D → D → Option D} {neg : Bool} {r0 : R2} {a b : Expr} {o p : Opd} {pos : Pos} (ho : OpR X (compareOp op) r0) (hs : Sem2 X.K g r0) (hO : OpR X (compareOp op) (rOwnC X.K c.T cn fe neg)) (hm : behindInMarks op b = false) (ha : LO X c W a o) (hb : LO X c W b p) : LE X c W (.Compare a [op] [b] pos) (mOwn cn fe g neg o p) :=
  PE.imp (pe_cmpR (ho.or hO) ha hb hm) fun σ H Q ⟨l, S, rp, po⟩ => by
    refine ⟨l, S, rp, Po.bind (R := RO X.K σ o) po fun x S1 v H1 l1 _ rp1 g1 q1 po1 => ?_⟩
    refine ⟨l1, S1, rp1, Po.bind (R := RO X.K σ p) po1 fun y S2 w H2 l2 _ rp2 g2 q2 po2 => ?_⟩
    obtain ⟨da, ra, po3⟩ := Po.rd rp2 (Gr.refl _) (q1.grow g2) po2
    obtain ⟨db, rb, po4⟩ := Po.rd rp2 (Gr.refl _) q2 po3
    exact own_r hs rp2 ra rb po4
theorem lt_own {op : CmpOp} {cn : String} {fe : Fn} {g : D → D → Option D} {neg : Bool} {r0 : R2} {a b : Expr} {o p : Opd} {pos : Pos} (ho : OpR X (compareOp op) r0) (hs : Sem2 X.K g r0) (hO : OpR X (compareOp op) (rOwnC X.K c.T cn fe neg)) (hm : behindInMarks op b = false) (ha : LO X c W a o) (hb : LO X c W b p) : LT X c W (.Compare a [op] [b] pos) (tB (mOwn cn fe g neg o p)) :=
  PT.imp (pt_cmpR (ho.or hO) ha hb hm) fun σ H Q ⟨l, S, rp, po⟩ => by
    have po : Po X.K c W l σ (fun _ b b' => b = b') Q (bnd (mOwn cn fe g neg o p) (fun x => opt (asB x)) S) := po
    unfold mOwn at po
    refine ⟨l, S, rp, ?_⟩
    have e1 : ∀ (g : D → M D) (k : D → M Bool) (m : M D), bnd (bnd m g) k = bnd m fun x => bnd (g x) k := fun g k m => by
      funext s
      unfold bnd
      cases m s <;> rfl
    rw [e1] at po
    refine Po.bind (R := RO X.K σ o) po fun x S1 v H1 l1 _ rp1 g1 q1 po1 => ?_
    rw [e1] at po1
    refine ⟨l1, S1, rp1, Po.bind (R := RO X.K σ p) po1 fun y S2 w H2 l2 _ rp2 g2 q2 po2 => ?_⟩
    rw [e1] at po2
    obtain ⟨da, ra, po3⟩ := Po.rd rp2 (Gr.refl _) (q1.grow g2) po2
    rw [e1] at po3
    obtain ⟨db, rb, po4⟩ := Po.rd rp2 (Gr.refl _) q2 po3
    refine own_r (cn := cn) (fe := fe) (neg := neg) hs rp2 ra rb (Po.bind (R := Dt X.K) po4 fun d S3 z H3 l3 _ rp3 g3 q3 po5 => ?_)
    obtain ⟨t, et, po6⟩ := Po.opt po5
    cases d with
    | bl k =>
      cases q3
      cases et
      exact ⟨_, rfl, po6 _ H3 l3 rp3 (Gr.refl _) rfl⟩
    | _ => cases et
end
end Lw

set_option Elab.async false
set_option linter.all false
set_option maxRecDepth 100000
set_option maxHeartbeats 4000000
/-! Lw: what is never reached; an own binary operator of two objects of one class; len of an object with an own __len__. -/
namespace Lw
open PySem PySem.Spec PyProof.Rows L2
section
variable {X : Cx} {c : Pk} {W : WX} {K : PySem.W.Frag}
theorem le_stuck {e : Expr} : LE X c W e stuck := ⟨fun pins s σ H Q I ⟨l, S, rp, po⟩ => po.elim⟩
theorem ls_stuck {st : Stmt} : LS X c W st stuck := ⟨fun pins s σ H D I ⟨l, S, rp, po⟩ => po.elim⟩
/-- the class cn has a method mn of its own, of n parameters, mirrored by fm -/
structure OwM (P : Program) (w : World) (K : PySem.W.Frag) (mg : Str → Option Value) (base : Heap) (T : List (Addr × Str)) (k : Nat) (cn : String) (mn : Str) (n : Nat) (fm : Fn) : Prop where
  ex : ∃ g, PySem.W.selfFirst K (cAd K cn) = true ∧ Meth K (cAd K cn) mn g ∧ FnG P w K mg base T k g n fm
theorem OwM.cast {P : Program} {w : World} {mg : Str → Option Value} {base : Heap} {T T' : List (Addr × Str)} {k : Nat} {cn : String} {mn : Str} {n : Nat} {fm : Fn} (F : OwM P w K mg base T k cn mn n fm) (e : T' = T) : OwM P w K mg base T' k cn mn n fm := by
  subst e
  exact F
def rOwnB (K : PySem.W.Frag) (T : List (Addr × Str)) (W : WX) (cn : String) (fm : Fn) (σ : L2.St) : R2 := fun x y H Q => ∃ a dx vs b dy ws, x = .ref a ∧ y = .ref b ∧ SlX.Slt H a (cAd K cn) dx vs ∧ SlX.Slt H b (cAd K cn) dy ws ∧ spM K T 2 fm [x, y] H Q (WE W σ)
/-- an operation's rule that looks at the slots -/
def OpS (X : Cx) (f : Value → Value → Sem Value) (r : L2.St → R2) : Prop :=
  ∀ (pins : List (Addr × Obj)) (s : Shared) (σ : L2.St) (H : Hp) (x y : V) (v u : Value) (Q : VK), Inv X pins σ H s → RelV x v → RelV y u → r σ x y H Q → wpAny (model X.prog X.w) X.A (f v u) (EP X pins σ Q) X.xe s
theorem op_ownB {op : Operator} {k : Nat} {cn : String} {mn : Str} {fm : Fn} (hmn : PySem.dunder op.info.2 = mn) (F : OwM X.prog X.w X.K X.mg X.base c.T k cn mn 2 fm) (hr : Room k X.A) (gd : X.A.guards = some []) (tk : Takes X W) : OpS X (binaryOp op) (rOwnB X.K c.T W cn fm) := by
  intro pins s σ H x y v u Q I rx ry h
  obtain ⟨g, sf, hm, G⟩ := F.ex
  obtain ⟨a, dx, vs, b, dy, ws, rfl, rfl, ha, hb, q⟩ := h
  cases (show v = Value.ref a from rx)
  cases (show u = Value.ref b from ry)
  obtain ⟨sl, od, _, J, _⟩ := SlX.slt_inst I ha
  obtain ⟨sl', od', _, J', _⟩ := SlX.slt_inst I hb
  obtain ⟨m, hF⟩ := I.fr
  refine PySem.W.binop_K (op := op) hF I.ok.mod.kin J J'.type sf (by rw [hmn]; exact hm.at_) hm.fn ?_
  refine wpAny_mono (run_g (us := [.ref a, .ref b]) (vs := [.ref a, .ref b]) G hr gd tk I (.cons rfl (.cons rfl .nil)) q) (fun w s' z => ?_) fun _ _ x => x
  obtain ⟨z', H', I', rz, qz⟩ := z
  exact SlX.cmpback rz ⟨_, H', I', rz, qz⟩
theorem pe_opS {op : Operator} {r : L2.St → R2} {a b : Expr} {ta tb : TE} {pos : Pos} (ho : OpS X (binaryOp op) r) (ha : PE X a ta) (hb : PE X b tb) : PE X (.BinOp a op b pos) (fun σ H Q => tOp (r σ) ta tb σ H Q) :=
  ⟨fun pins s σ H Q I h => wpAny_BinOp (binT ha hb I h fun v u s2 x y H2 I2 rx ry q => ho pins s2 σ H2 x y v u Q I2 rx ry q)⟩
/-- both of the class: its method; else as plain data -/
def ownB (cn : String) (fe : Fn) (g : D → D → Option D) (a b : D) : M D := fun s => match a, b with
  | .obj c1 xs, .obj c2 ys => if c1 = cn ∧ c2 = cn then call fe [.obj c1 xs, .obj c2 ys] s else .no
  | a, b => opt (g a b) s
def mOwnB (cn : String) (fe : Fn) (g : D → D → Option D) (o p : Opd) : M D := bnd o.ev fun x => bnd p.ev fun y => bnd (o.rd x) fun a => bnd (p.rd y) fun b => ownB cn fe g a b
theorem ownB_r {cn : String} {fe : Fn} {g : D → D → Option D} {r0 : R2} {l : Lh} {σ : L2.St} {S0 : S} {H : Hp} {v w : V} {a b : D} {Q : VK} (hs : Sem2 X.K g r0) (rp : Rep X.K c l S0 σ H) (ra : Rv X.K l H v a) (rb : Rv X.K l H w b) (po : Po X.K c W l σ (Dt X.K) Q (ownB cn fe g a b S0)) : r0 v w H Q ∨ rOwnB X.K c.T W cn fe σ v w H Q := by
  have plainC : ownB cn fe g a b S0 = opt (g a b) S0 → r0 v w H Q := fun e => by
    rw [e] at po
    obtain ⟨d, e, po5⟩ := Po.opt po
    exact hs l H v w a b d Q rp.rt.lh ra rb e (po5.give rp)
  cases a with
  | obj c1 xs =>
    cases b with
    | obj c2 ys =>
      unfold ownB at po
      dsimp only at po
      split at po
      · rename_i hc
        obtain ⟨e1, e2⟩ := hc
        subst c1 c2
        have ka := obj_ref ra
        have kb := obj_ref rb
        obtain ⟨a1, dx, vs, rfl, h1, h2, _⟩ := ka
        obtain ⟨b1, dy, ws, rfl, k1, k2, _⟩ := kb
        exact .inr ⟨a1, dx, vs.map some, b1, dy, ws.map some, rfl, rfl, .inr ⟨rp.rt.lh _ _ h1, rp.rt.lh _ _ h2⟩, .inr ⟨rp.rt.lh _ _ k1, rp.rt.lh _ _ k2⟩, call_post rp (rv_dt ra) (.cons (rv_dt rb) .nil) rfl po⟩
      · exact po.elim
    | _ => exact .inl (plainC rfl)
  | _ => exact .inl (plainC rfl)
theorem le_ownB {op : Operator} {cn : String} {fe : Fn} {g : D → D → Option D} {r0 : R2} {a b : Expr} {o p : Opd} {pos : Pos} (ho : OpR X (binaryOp op) r0) (hs : Sem2 X.K g r0) (hO : OpS X (binaryOp op) (rOwnB X.K c.T W cn fe)) (ha : LO X c W a o) (hb : LO X c W b p) : LE X c W (.BinOp a op b pos) (mOwnB cn fe g o p) :=
  PE.imp (pe_opS (r := fun σ x y H Q => r0 x y H Q ∨ rOwnB X.K c.T W cn fe σ x y H Q) (fun pins s σ H x y v u Q I rx ry h => h.elim (ho pins s σ H x y v u Q I rx ry) (hO pins s σ H x y v u Q I rx ry)) ha hb) fun σ H Q ⟨l, S, rp, po⟩ => by
    refine ⟨l, S, rp, Po.bind (R := RO X.K σ o) po fun x S1 v H1 l1 _ rp1 g1 q1 po1 => ?_⟩
    refine ⟨l1, S1, rp1, Po.bind (R := RO X.K σ p) po1 fun y S2 w H2 l2 _ rp2 g2 q2 po2 => ?_⟩
    obtain ⟨da, ra, po3⟩ := Po.rd rp2 (Gr.refl _) (q1.grow g2) po2
    obtain ⟨db, rb, po4⟩ := Po.rd rp2 (Gr.refl _) q2 po3
    exact ownB_r hs rp2 ra rb po4
theorem le_addO {k : Nat} {cn : String} {fe : Fn} {a b : Expr} {o p : Opd} {pos : Pos} (F : OwM X.prog X.w X.K X.mg X.base c.T k cn "__add__" 2 fe) (hr : Room k X.A) (gd : X.A.guards = some []) (tk : Takes X W) (ha : LO X c W a o) (hb : LO X c W b p) : LE X c W (.BinOp a .Add b pos) (mOwnB cn fe dAdd o p) := le_ownB op_plus sm_add (op_ownB rfl F hr gd tk) ha hb
/-! ### len -/
def rLenO (K : PySem.W.Frag) (T : List (Addr × Str)) (cn : String) (fm : Fn) : List V → Hp → VK → Prop := fun xs H Q => ∃ a dx vs, xs = [.ref a] ∧ SlX.Slt H a (cAd K cn) dx vs ∧ spM K T 1 fm xs H (fun v H' => ∃ n : Int, v = .int n ∧ (0 ≤ n ∧ n < 2 ^ 62) ∧ Q (.int n) H') (fun _ _ _ => False)
theorem call_lenO {k : Nat} {cn : String} {fm : Fn} (F : OwM X.prog X.w X.K X.mg X.base c.T k cn "__len__" 1 fm) (hr : Room (k + 1) X.A) (gd : X.A.guards = some []) (tk : Takes X W) : CallR X (.builtin "len") (rLenO X.K c.T cn fm) := by
  intro pins s σ H xs us Q I r h
  obtain ⟨g, sf, hm, G⟩ := F.ex
  obtain ⟨a, dx, vs, rfl, ha, q⟩ := h
  obtain ⟨u, rfl, rx⟩ := vals1 r
  cases (show u = Value.ref a from rx)
  obtain ⟨sl, od, _, J, _⟩ := SlX.slt_inst I ha
  obtain ⟨m, hF⟩ := I.fr
  refine PySem.W.len_K hF I.ok.mod.kin J hm.at_ hm.fn ?_
  refine wpAny_mono (run_g1 (us := [.ref a]) (vs := [.ref a]) G hr gd tk I (.cons rfl .nil) (spM_mono q)) (fun w s' z => ?_) fun _ _ x => x
  obtain ⟨z', H', I', rz, n, rfl, hn, qz⟩ := z
  obtain ⟨t, rfl⟩ := (show ∃ t, w = Value.int n t from rz)
  exact ⟨⟨hn.1, by omega⟩, .int n, H', I'.tok _, ⟨_, rfl⟩, qz⟩
def lenO (cn : String) (fe : Fn) (a : D) : M D := fun s => match a with
  | .obj c1 xs => if c1 = cn then (match call fe [.obj c1 xs] s with
    | .ok (.int n) s' => if 0 ≤ n ∧ n.natAbs < 4611686018427387904 then .ok (.int n) s' else .no
    | _ => .no) else .no
  | a => opt (dLen [a]) s
def mLenO (cn : String) (fe : Fn) (o : Opd) : M D := bnd o.ev fun x => bnd (o.rd x) fun a => lenO cn fe a
theorem le_lenO {k : Nat} {cn : String} {fe : Fn} {a : Expr} {o : Opd} {p pos : Pos} (F : OwM X.prog X.w X.K X.mg X.base c.T k cn "__len__" 1 fe) (hr : Room (k + 1) X.A) (gd : X.A.guards = some []) (tk : Takes X W) (hm : X.mg "len" = none) (ha : LO X c W a o) (hg : Gl X "len" := by rfl) (he : starEach [a] X.env = (false, eval a X.env) :: starEach [] X.env := by rfl) : LE X c W (.Call (.Name "len" p) [a] [] pos) (mLenO cn fe o) := by
  have e0 : mLenO cn fe o = bnd (evs [o]) fun xs => bnd (rds [o] xs) fun as => match as with
    | [a] => lenO cn fe a
    | _ => stuck := by
    funext s
    simp only [mLenO, evs, bnd, ret]
    cases o.ev s with
    | ok x s1 =>
      simp only [rds, bnd, ret]
      cases o.rd x s1 <;> rfl
    | er x s1 => rfl
    | no => rfl
  rw [e0]
  refine PE.imp (pe_callB (r := fun xs H Q => (∃ x n, xs = [x] ∧ LenV X.K x H n ∧ Q (.int n) H) ∨ rLenO X.K c.T cn fe xs H Q) (fun pins s σ H xs us Q I r h => h.elim (call_len pins s σ H xs us Q I r) (call_lenO F hr gd tk pins s σ H xs us Q I r)) hg hm boot_len (los_cons ha los_nil he) (he := he)) fun σ H Q ⟨l, S, rp, po⟩ => ?_
  refine ⟨l, S, rp, Po.bind (R := ROs X.K σ [o]) po fun xs S1 vs H1 l1 _ rp1 g1 q1 po1 => ?_⟩
  obtain ⟨as, ra, po2⟩ := Po.rds rp1 (Gr.refl _) q1 po1
  have one : ∀ {as : List D}, RvAll X.K l1 H1 vs as → Po X.K c W l1 σ (Dt X.K) Q ((match as with
    | [a] => lenO cn fe a
    | _ => stuck) S1) → (∃ x n, vs = [x] ∧ LenV X.K x H1 n ∧ Q (.int n) H1) ∨ rLenO X.K c.T cn fe vs H1 Q := fun {as} ra po2 => by
    match as, ra, po2 with
    | [a], ra, po2 =>
      have plainC : lenO cn fe a S1 = opt (dLen [a]) S1 → (∃ x n, vs = [x] ∧ LenV X.K x H1 n ∧ Q (.int n) H1) := fun e => by
        dsimp only at po2
        rw [e] at po2
        obtain ⟨d, e, po5⟩ := Po.opt po2
        exact sm_len l1 H1 vs [a] d Q rp1.rt.lh ra e (po5.give rp1)
      cases a with
      | obj c1 xs =>
        dsimp only [lenO] at po2
        split at po2
        · rename_i hc
          subst c1
          obtain ⟨v, rfl, rv⟩ := ra.one
          have ka := obj_ref rv
          obtain ⟨a1, dx, ws, rfl, h1, h2, _⟩ := ka
          refine .inr ⟨a1, dx, ws.map some, rfl, .inr ⟨rp1.rt.lh _ _ h1, rp1.rt.lh _ _ h2⟩, rfl, l1, S1.ds, [_], rp1.rt.self, .cons (rv_dt rv) .nil, ?_⟩
          unfold call at po2
          cases e : fe [.obj cn xs] S1.ds with
          | no =>
            rw [e] at po2
            exact po2
          | er x ds' =>
            rw [e] at po2
            exact po2.elim
          | ok d ds' =>
            rw [e] at po2
            intro v H' l' rt dt
            cases d with
            | int n =>
              dsimp only at po2
              split at po2
              · rename_i hn
                cases dt
                exact ⟨n, rfl, ⟨hn.1, by have := hn.2; omega⟩, po2 _ H' l' (rp1.on rt) rt.gr (.int _)⟩
              · exact po2.elim
            | _ => exact po2.elim
        · exact po2.elim
      | _ => exact .inl (plainC rfl)
    | [], _, po2 => exact po2.elim
    | _ :: _ :: _, _, po2 => exact po2.elim
  exact one ra po2
@[simp] theorem q_mOwnB (cn : String) (fe : Fn) (g : D → D → Option D) (o p : Opd) (s : S) : mOwnB cn fe g o p s = bnd o.ev (fun x => bnd p.ev fun y => bnd (o.rd x) fun a => bnd (p.rd y) fun b => ownB cn fe g a b) s := rfl
@[simp] theorem q_ownB (cn : String) (fe : Fn) (g : D → D → Option D) (xs ys : List D) (s : S) : ownB cn fe g (.obj cn xs) (.obj cn ys) s = call fe [.obj cn xs, .obj cn ys] s := if_pos ⟨rfl, rfl⟩
@[simp] theorem q_mLenO (cn : String) (fe : Fn) (o : Opd) (s : S) : mLenO cn fe o s = bnd o.ev (fun x => bnd (o.rd x) fun a => lenO cn fe a) s := rfl
end
end Lw

set_option Elab.async false
set_option linter.all false
set_option maxRecDepth 100000
set_option maxHeartbeats 4000000
/-! Lw: what the head's end is asked of a class with slots. -/
namespace Lw
open PySem PySem.Spec PyProof.Rows L2
open He (ba)
def sclB (K : PySem.W.Frag) (C : Addr) : Bool := PySem.W.plainGet K C Str.empty && (PySem.W.isClsIn K C && (PySem.W.plainOver K C && He.eqO (PySem.W.findIn K (.ref C) "__setattr__") (some (some (.builtin "object.__setattr__")))))
def sisB (K : PySem.W.Frag) (C : Addr) : Bool := He.eqO (PySem.W.findIn K (.ref C) "__class__") (some (some (.builtin "object.__class__"))) && (He.eqO (PySem.W.specialIn K (.builtin "object.__class__") "__get__") (some (some (.builtin "getset_descriptor.__get__"))) && (eqB (PySem.W.takesIn K (.builtin "object.__class__")) (some true) && eqB (PySem.W.mroIn K C (.type "object")) (some true)))
def slotB (K : PySem.W.Frag) (C : Addr) (f : String) (i : Nat) : Bool := match PySem.W.findIn K (.ref C) (Str.ofString f) with
  | some (some (.ref p)) => He.eqO (PySem.W.specialIn K (.ref p) "__get__") (some (some (.builtin "member_descriptor.__get__"))) && (eqB (PySem.W.takesIn K (.ref p)) (some true) && (eqV (PySem.W.typeIn K (.ref p)) (some (.type "member_descriptor")) && (decide (PySem.W.slotIn K p C = some i) && decide (i < 1000))))
  | _ => false
def slotsB (K : PySem.W.Frag) (C : Addr) : Nat → List String → Bool
  | _, [] => true
  | i, f :: fs => slotB K C f i && slotsB K C (i + 1) fs
theorem slotB_ok {K : PySem.W.Frag} {C : Addr} {f : String} {i : Nat} (h : slotB K C f i = true) : ∃ p, SlX.Slot1 K C (Str.ofString f) p i := by
  unfold slotB at h
  split at h
  · rename_i p hp
    obtain ⟨h1, h⟩ := ba h
    obtain ⟨h2, h⟩ := ba h
    obtain ⟨h3, h⟩ := ba h
    obtain ⟨h4, h5⟩ := ba h
    exact ⟨p, hp, He.eqO_ok h1, of_decide_eq_true h2, of_decide_eq_true h3, of_decide_eq_true h4, of_decide_eq_true h5⟩
  · cases h
theorem slotsB_ok {K : PySem.W.Frag} {C : Addr} : ∀ {fs : List String} {k : Nat}, slotsB K C k fs = true → ∀ (i : Nat) (f : String), fs[i]? = some f → ∃ p, SlX.Slot1 K C (Str.ofString f) p (k + i)
  | [], _, _, i, f, e => by simp at e
  | g :: fs, k, h, 0, f, e => by
    cases e
    exact slotB_ok (ba h).1
  | g :: fs, k, h, i + 1, f, e => by
    have := slotsB_ok (ba h).2 i f (by simpa using e)
    rw [Nat.add_assoc, Nat.add_comm 1] at this
    exact this
theorem sclB_ok {K : PySem.W.Frag} {C : Addr} (h : sclB K C = true) : SlX.SCls K C := by
  obtain ⟨h1, h⟩ := ba h
  obtain ⟨h2, h⟩ := ba h
  obtain ⟨h3, h4⟩ := ba h
  exact ⟨h1, h2, h3, He.eqO_ok h4⟩
theorem sisB_ok {K : PySem.W.Frag} {C : Addr} (h : sisB K C = true) : SlX.SIsi K C := by
  obtain ⟨h1, h⟩ := ba h
  obtain ⟨h2, h⟩ := ba h
  obtain ⟨h3, h4⟩ := ba h
  exact ⟨He.eqO_ok h1, He.eqO_ok h2, of_decide_eq_true h3, of_decide_eq_true h4⟩
/-- all that is asked of the classes with slots -/
def clsAllB (K : PySem.W.Frag) (sl : List (String × List String)) : Bool := (sl.all fun p => sclB K (cAd K p.1) && (sisB K (cAd K p.1) && slotsB K (cAd K p.1) 0 p.2)) && ((sl.all fun p => sl.all fun q => eqB (PySem.W.kitOne K (.ref (cAd K q.1)) (.ref (cAd K p.1))) (some (q.1 == p.1))) && (sl.all fun p => tyNames.all fun t => eqB (PySem.W.kitOne K (.type t) (.ref (cAd K p.1))) (some false)))
theorem clsAll_clO {K : PySem.W.Frag} {sl : List (String × List String)} (h : clsAllB K sl = true) : ∀ p ∈ sl, ClO K p.1 p.2 := fun p hp => by
  obtain ⟨h1, h⟩ := ba (List.all_eq_true.mp (ba h).1 p hp)
  obtain ⟨h2, h3⟩ := ba h
  exact ⟨sclB_ok h1, sisB_ok h2, fun i f e => by
    have := slotsB_ok h3 i f e
    rw [Nat.zero_add] at this
    exact this⟩
theorem clsAll_is {K : PySem.W.Frag} {sl : List (String × List String)} (h : clsAllB K sl = true) : ∀ p ∈ sl, ∀ q ∈ sl, SlX.SCls K (cAd K q.1) ∧ SlX.SIsi K (cAd K q.1) ∧ PySem.W.kitOne K (.ref (cAd K q.1)) (.ref (cAd K p.1)) = some (q.1 == p.1) := fun p hp q hq =>
  ⟨(clsAll_clO h q hq).sc, (clsAll_clO h q hq).si, of_decide_eq_true (List.all_eq_true.mp (List.all_eq_true.mp (ba (ba h).2).1 p hp) q hq)⟩
theorem clsAll_ty {K : PySem.W.Frag} {sl : List (String × List String)} (h : clsAllB K sl = true) : ∀ p ∈ sl, ∀ t ∈ tyNames, PySem.W.kitOne K (.type t) (.ref (cAd K p.1)) = some false := fun p hp t ht =>
  of_decide_eq_true (List.all_eq_true.mp (List.all_eq_true.mp (ba (ba h).2).2 p hp) t ht)
end Lw

set_option Elab.async false
set_option linter.all false
set_option maxRecDepth 100000
set_option maxHeartbeats 4000000
/-! Lw: abs, max, min, sum, any, all, sorted, count, pop, zip. -/
namespace Lw
open PySem PySem.Spec PyProof.Rows L2
def asInts : List D → Option (List Int)
  | [] => some []
  | .int i :: ds => (asInts ds).map (i :: ·)
  | _ :: _ => none
theorem asInts_eq : ∀ {ds : List D} {ns : List Int}, asInts ds = some ns → ds = ns.map .int
  | [], ns, h => by
    cases h
    rfl
  | .int i :: ds, ns, h => by
    have h : (asInts ds).map (i :: ·) = some ns := h
    cases e : asInts ds with
    | none =>
      rw [e] at h
      cases h
    | some ms =>
      rw [e] at h
      cases h
      rw [asInts_eq e]
      rfl
  | .non :: ds, ns, h => by cases h
  | .bl _ :: ds, ns, h => by cases h
  | .str _ :: ds, ns, h => by cases h
  | .tup _ :: ds, ns, h => by cases h
  | .lst _ :: ds, ns, h => by cases h
  | .dct _ :: ds, ns, h => by cases h
  | .obj _ _ :: ds, ns, h => by cases h
  | .exc _ _ :: ds, ns, h => by cases h
  | .dm :: ds, ns, h => by cases h
  | .scr _ :: ds, ns, h => by cases h
@[simp] theorem asInts_map : ∀ ns : List Int, asInts (ns.map .int) = some ns
  | [] => rfl
  | n :: ns => by
    show (asInts (ns.map .int)).map (n :: ·) = _
    rw [asInts_map ns]
    rfl
def asBls : List D → Option (List Bool)
  | [] => some []
  | .bl i :: ds => (asBls ds).map (i :: ·)
  | _ :: _ => none
theorem asBls_eq : ∀ {ds : List D} {ns : List Bool}, asBls ds = some ns → ds = ns.map .bl
  | [], ns, h => by
    cases h
    rfl
  | .bl i :: ds, ns, h => by
    have h : (asBls ds).map (i :: ·) = some ns := h
    cases e : asBls ds with
    | none =>
      rw [e] at h
      cases h
    | some ms =>
      rw [e] at h
      cases h
      rw [asBls_eq e]
      rfl
  | .non :: ds, ns, h => by cases h
  | .int _ :: ds, ns, h => by cases h
  | .str _ :: ds, ns, h => by cases h
  | .tup _ :: ds, ns, h => by cases h
  | .lst _ :: ds, ns, h => by cases h
  | .dct _ :: ds, ns, h => by cases h
  | .obj _ _ :: ds, ns, h => by cases h
  | .exc _ _ :: ds, ns, h => by cases h
  | .dm :: ds, ns, h => by cases h
  | .scr _ :: ds, ns, h => by cases h
@[simp] theorem asBls_map : ∀ ns : List Bool, asBls (ns.map .bl) = some ns
  | [] => rfl
  | n :: ns => by
    show (asBls (ns.map .bl)).map (n :: ·) = _
    rw [asBls_map ns]
    rfl
theorem DtAll.blsV {K : PySem.W.Frag} {l : Lh} : ∀ {vs : List V} {ns : List Bool}, DtAll K l vs (ns.map D.bl) → vs = ns.map V.bl
  | _, [], h => by
    cases h
    rfl
  | _, n :: ns, h => by
    cases h with
    | cons a b =>
      cases a
      rw [DtAll.blsV b]
      rfl
def dAbs : List D → Option D
  | [.int i] => some (.int (if i < 0 then -i else i))
  | _ => none
def dMax2 : List D → Option D
  | [.int i, .int j] => some (.int (if j > i then j else i))
  | _ => none
def dMin2 : List D → Option D
  | [.int i, .int j] => some (.int (if j < i then j else i))
  | _ => none
def dSum : List D → Option D
  | [.lst xs] => (asInts xs).map fun ns => .int ns.sum
  | _ => none
def dAny : List D → Option D
  | [.lst xs] => (asBls xs).map fun bs => .bl (bs.any id)
  | _ => none
def dAll : List D → Option D
  | [.lst xs] => (asBls xs).map fun bs => .bl (bs.all id)
  | _ => none
/-- sorted(xs) of whole numbers -/
def dSortI : List D → Option D
  | [.lst xs] => (asInts xs).map fun ns => .lst ((ns.mergeSort (fun a b => decide (a ≤ b))).map .int)
  | _ => none
def minL : List Int → Option Int
  | [] => none
  | [n] => some n
  | n :: ns => (minL ns).map fun m => if n ≤ m then n else m
def maxL : List Int → Option Int
  | [] => none
  | [n] => some n
  | n :: ns => (maxL ns).map fun m => if m ≤ n then n else m
section
variable {X : Cx} {c : Pk} {W : WX} {K : PySem.W.Frag}
theorem sm_abs : SemB K dAbs (fun xs H Q => ∃ i, xs = [.int i] ∧ Q (.int (if i < 0 then -i else i)) H) := by
  intro l H vs as d Q x r e g
  unfold dAbs at e
  split at e
  · cases e
    obtain ⟨v, rfl, rr⟩ := r.one
    rw [rr.int]
    exact ⟨_, rfl, g.1 _ (.int _)⟩
  · cases e
theorem le_abs {a : Expr} {o : Opd} {p pos : Pos} (hm : X.mg "abs" = none) (ha : LO X c W a o) (hg : Gl X "abs" := by rfl) (he : starEach [a] X.env = (false, eval a X.env) :: starEach [] X.env := by rfl) : LE X c W (.Call (.Name "abs" p) [a] [] pos) (mBi dAbs [o]) :=
  le_blt (id := "abs") call_abs sm_abs hm (los_cons ha los_nil he) hg (hst := he)
theorem sm_max2 : SemB K dMax2 (fun xs H Q => ∃ i j, xs = [.int i, .int j] ∧ Q (.int (if j > i then j else i)) H) := by
  intro l H vs as d Q x r e g
  unfold dMax2 at e
  split at e
  · cases e
    obtain ⟨v, w, rfl, r1, r2⟩ := r.two
    rw [r1.int, r2.int]
    exact ⟨_, _, rfl, g.1 _ (.int _)⟩
  · cases e
theorem sm_min2 : SemB K dMin2 (fun xs H Q => ∃ i j, xs = [.int i, .int j] ∧ Q (.int (if j < i then j else i)) H) := by
  intro l H vs as d Q x r e g
  unfold dMin2 at e
  split at e
  · cases e
    obtain ⟨v, w, rfl, r1, r2⟩ := r.two
    rw [r1.int, r2.int]
    exact ⟨_, _, rfl, g.1 _ (.int _)⟩
  · cases e
theorem le_max2 {a b : Expr} {o o2 : Opd} {p pos : Pos} (hc : X.calm = true) (hm : X.mg "max" = none) (ha : LO X c W a o) (hb : LO X c W b o2) (hg : Gl X "max" := by rfl) (he : starEach [a, b] X.env = (false, eval a X.env) :: starEach [b] X.env := by rfl) (he2 : starEach [b] X.env = (false, eval b X.env) :: starEach [] X.env := by rfl)
    (hpl : (backTo pos (starEach [b] X.env)).any (·.1) = false := by rfl) : LE X c W (.Call (.Name "max" p) [a, b] [] pos) (mBi dMax2 [o, o2]) :=
  le_blt (id := "max") (call_max2 hc) sm_max2 hm (los_cons ha (los_cons hb los_nil he2) he) hg (hst := he) (hpl := hpl)
theorem le_min2 {a b : Expr} {o o2 : Opd} {p pos : Pos} (hc : X.calm = true) (hm : X.mg "min" = none) (ha : LO X c W a o) (hb : LO X c W b o2) (hg : Gl X "min" := by rfl) (he : starEach [a, b] X.env = (false, eval a X.env) :: starEach [b] X.env := by rfl) (he2 : starEach [b] X.env = (false, eval b X.env) :: starEach [] X.env := by rfl)
    (hpl : (backTo pos (starEach [b] X.env)).any (·.1) = false := by rfl) : LE X c W (.Call (.Name "min" p) [a, b] [] pos) (mBi dMin2 [o, o2]) :=
  le_blt (id := "min") (call_min2 hc) sm_min2 hm (los_cons ha (los_cons hb los_nil he2) he) hg (hst := he) (hpl := hpl)
theorem sm_sum : SemB K dSum (rSum K) := by
  intro l H vs as d Q x r e g
  unfold dSum at e
  split at e
  · rename_i xs
    cases ei : asInts xs with
    | none =>
      rw [ei] at e
      cases e
    | some ns =>
      rw [ei] at e
      cases e
      obtain ⟨v, rfl, rr⟩ := r.one
      obtain ⟨p, ws, rfl, h1, h2⟩ := rr.lst x
      rw [asInts_eq ei] at h2
      rw [h2.intsV] at h1
      exact ⟨p, ns, rfl, SqL.of h1, g.1 _ (.int _)⟩
  · cases e
theorem le_sum {a : Expr} {o : Opd} {p pos : Pos} (hc : X.calm = true) (hm : X.mg "sum" = none) (ha : LO X c W a o) (hg : Gl X "sum" := by rfl) (he : starEach [a] X.env = (false, eval a X.env) :: starEach [] X.env := by rfl) : LE X c W (.Call (.Name "sum" p) [a] [] pos) (mBi dSum [o]) :=
  le_blt (id := "sum") (cr_sum hc) sm_sum hm (los_cons ha los_nil he) hg (hst := he)
theorem sm_any : SemB K dAny (rAny K) := by
  intro l H vs as d Q x r e g
  unfold dAny at e
  split at e
  · rename_i xs
    cases ei : asBls xs with
    | none =>
      rw [ei] at e
      cases e
    | some ns =>
      rw [ei] at e
      cases e
      obtain ⟨v, rfl, rr⟩ := r.one
      obtain ⟨p, ws, rfl, h1, h2⟩ := rr.lst x
      rw [asBls_eq ei] at h2
      rw [h2.blsV] at h1
      exact ⟨p, ns, rfl, SqL.of h1, g.1 _ (.bl _)⟩
  · cases e
theorem sm_all : SemB K dAll (rAll K) := by
  intro l H vs as d Q x r e g
  unfold dAll at e
  split at e
  · rename_i xs
    cases ei : asBls xs with
    | none =>
      rw [ei] at e
      cases e
    | some ns =>
      rw [ei] at e
      cases e
      obtain ⟨v, rfl, rr⟩ := r.one
      obtain ⟨p, ws, rfl, h1, h2⟩ := rr.lst x
      rw [asBls_eq ei] at h2
      rw [h2.blsV] at h1
      exact ⟨p, ns, rfl, SqL.of h1, g.1 _ (.bl _)⟩
  · cases e
theorem le_any {a : Expr} {o : Opd} {p pos : Pos} (hc : X.calm = true) (hm : X.mg "any" = none) (ha : LO X c W a o) (hg : Gl X "any" := by rfl) (he : starEach [a] X.env = (false, eval a X.env) :: starEach [] X.env := by rfl) : LE X c W (.Call (.Name "any" p) [a] [] pos) (mBi dAny [o]) :=
  le_blt (id := "any") (cr_any hc) sm_any hm (los_cons ha los_nil he) hg (hst := he)
theorem le_all {a : Expr} {o : Opd} {p pos : Pos} (hc : X.calm = true) (hm : X.mg "all" = none) (ha : LO X c W a o) (hg : Gl X "all" := by rfl) (he : starEach [a] X.env = (false, eval a X.env) :: starEach [] X.env := by rfl) : LE X c W (.Call (.Name "all" p) [a] [] pos) (mBi dAll [o]) :=
  le_blt (id := "all") (cr_all hc) sm_all hm (los_cons ha los_nil he) hg (hst := he)
theorem sortI_uniq {ns ms : List Int} (h1 : ms.Perm ns) (h2 : ms.Pairwise (· ≤ ·)) : ms = ns.mergeSort (fun a b => decide (a ≤ b)) := by
  refine List.Perm.eq_of_pairwise (le := (· ≤ ·)) (fun a b _ _ x y => Int.le_antisymm x y) h2 ?_ (h1.trans (List.mergeSort_perm _ _).symm)
  have := List.pairwise_mergeSort (le := fun a b : Int => decide (a ≤ b)) (fun a b c h1 h2 => by simp at *; omega) (fun a b => by simp; omega) ns
  exact this.imp fun h => by simpa using h
theorem sm_sortI : SemB K dSortI (rSortedI K) := by
  intro l H vs as d Q x r e g
  unfold dSortI at e
  split at e
  · rename_i xs
    cases ei : asInts xs with
    | none =>
      rw [ei] at e
      cases e
    | some ns =>
      rw [ei] at e
      cases e
      obtain ⟨v, rfl, rr⟩ := r.one
      obtain ⟨p, ws, rfl, h1, h2⟩ := rr.lst x
      rw [asInts_eq ei] at h2
      rw [h2.intsV] at h1
      refine ⟨p, ns, rfl, SqL.of h1, fun ms q hp hs hq => ?_⟩
      rw [sortI_uniq hp hs]
      exact g.lst (DtAll.ints _) q hq (x.none hq)
  · cases e
theorem le_sortI {a : Expr} {o : Opd} {p pos : Pos} (hm : X.mg "sorted" = none) (ha : LO X c W a o) (hg : Gl X "sorted" := by rfl) (he : starEach [a] X.env = (false, eval a X.env) :: starEach [] X.env := by rfl) : LE X c W (.Call (.Name "sorted" p) [a] [] pos) (mBi dSortI [o]) :=
  le_blt (id := "sorted") cr_sortedI sm_sortI hm (los_cons ha los_nil he) hg (hst := he)
end
end Lw

set_option Elab.async false
set_option linter.all false
set_option maxRecDepth 100000
set_option maxHeartbeats 4000000
/-! Lw: zip, sorted pairs, count, pop, a, b, c = x, y, z. -/
namespace Lw
open PySem PySem.Spec PyProof.Rows L2
/-! ### zip -/
def zipF : List D → List D → List D
  | x :: xs, y :: ys => .pr [x, y] :: zipF xs ys
  | _, _ => []
theorem zipF_len : ∀ xs ys : List D, (zipF xs ys).length = min xs.length ys.length
  | [], _ => by simp [zipF]
  | _ :: _, [] => by simp [zipF]
  | x :: xs, y :: ys => by simp [zipF, zipF_len xs ys]
theorem zipF_get : ∀ {xs ys : List D} {i : Nat} {a b : D}, xs[i]? = some a → ys[i]? = some b → (zipF xs ys)[i]? = some (.pr [a, b])
  | [], _, _, _, _, h, _ => by simp at h
  | _ :: _, [], _, _, _, _, h => by simp at h
  | x :: xs, y :: ys, 0, a, b, h1, h2 => by
    simp at h1 h2
    simp [zipF, h1, h2]
  | x :: xs, y :: ys, i + 1, a, b, h1, h2 => by
    simp only [zipF, List.getElem?_cons_succ]
    exact zipF_get (by simpa using h1) (by simpa using h2)
def iZ : List D → Option (List D)
  | [.lst xs, .lst ys] => if xs.length ≤ line then some (zipF xs ys) else none
  | [.tup xs, .tup ys] => if xs.length ≤ line then some (zipF xs ys) else none
  | _ => none
theorem iZ_some {ds zs : List D} (h : iZ ds = some zs) : ∃ xs ys, xs.length ≤ line ∧ zs = zipF xs ys ∧ (ds = [.lst xs, .lst ys] ∨ ds = [.tup xs, .tup ys]) := by
  unfold iZ at h
  split at h
  · split at h
    · cases h
      exact ⟨_, _, by assumption, rfl, .inl rfl⟩
    · cases h
  · split at h
    · cases h
      exact ⟨_, _, by assumption, rfl, .inr rfl⟩
    · cases h
  · cases h
section
variable {X : Cx} {c : Pk} {W : WX} {K : PySem.W.Frag}
theorem zip_pair {l l1 : Lh} {vs us : List V} {ds es : List D} {H H1 : Hp} {x y z : V} {T : Addr} {i : Nat} (hd : DtAll K l vs ds) (he : DtAll K l us es) (g : Gr l l1) (hx : vs[i]? = some y) (hy : us[i]? = some z) (ex : x = .ref T) (hT : H T = none) (eH : H1 = upd H T (.tup [y, z])) :
    ∃ d, (zipF ds es)[i]? = some d ∧ ((H1 = H ∧ Dt K l1 x d) ∨ ∃ T vs ds, x = .ref T ∧ H T = none ∧ H1 = upd H T (.tup vs) ∧ d = .pr ds ∧ DtAll K l1 vs ds) := by
  obtain ⟨d, e1, dt⟩ := hd.getV hx
  obtain ⟨e, e2, et⟩ := he.getV hy
  exact ⟨_, zipF_get e1 e2, .inr ⟨T, _, _, ex, hT, eH, rfl, .cons (dt.grow g) (.cons (et.grow g) .nil)⟩⟩
theorem wk_zipL {l : Lh} {a b : Addr} {vs us : List V} {ds es : List D} (h : SqL K l.L a vs) (h' : SqL K l.L b us) (hd : DtAll K l vs ds) (he : DtAll K l us es) (hz : ds.length ≤ sizeLine) : Wk K l (Itz K a b) (zipF ds es) := by
  refine ⟨by rw [zipF_len]; omega, fun H => SqL K H a vs ∧ SqL K H b us, YPair (fun i => vs[i]?) (fun i => us[i]?), ?_, fun H x => ⟨x.sqL h, x.sqL h'⟩, fun i H x H1 l1 hi g1 x1 ⟨T, u, y, e1, e2, e3, e4, e5⟩ => ?_⟩
  · rw [zipF_len, ← hd.length, ← he.length]
    exact walk_zip rfl
  · exact zip_pair hd he g1 e4 e5 e1 e2 e3
theorem wk_zipT {l : Lh} {a b : Addr} {vs us : List V} {ds es : List D} (h : SqT K l.L a vs) (h' : SqT K l.L b us) (hd : DtAll K l vs ds) (he : DtAll K l us es) (hz : ds.length ≤ sizeLine) : Wk K l (RZ.ItzT K a b) (zipF ds es) := by
  refine ⟨by rw [zipF_len]; omega, fun H => SqT K H a vs ∧ SqT K H b us, YPair (fun i => vs[i]?) (fun i => us[i]?), ?_, fun H x => ⟨x.sqT h, x.sqT h'⟩, fun i H x H1 l1 hi g1 x1 ⟨T, u, y, e1, e2, e3, e4, e5⟩ => ?_⟩
  · rw [zipF_len, ← hd.length, ← he.length]
    refine ⟨fun i _ hi q => ?_, fun _ q => ⟨vs, us, q.1, q.2, by omega⟩, fun i H v H' _ q y => ?_⟩
    · have h1 : i < vs.length := by omega
      have h2 : i < us.length := by omega
      exact ⟨vs, us, vs[i], us[i], q.1, q.2, by simp [h1], by simp [h2]⟩
    · obtain ⟨T, x, z, h1, h2, h3, h4, h5⟩ := y
      exact ⟨T, x, z, h1, h2, h3, h4 vs q.1, h5 us q.2⟩
  · exact zip_pair hd he g1 e4 e5 e1 e2 e3
/-- .. in zip(a, b) -/
theorem li_zip {e e2 : Expr} {m : M (List D)} {p pos tpos : Pos} {elts : List Expr} {kk : Nat} (hm : X.mg "zip" = none) (ha : LA X c W [e, e2] m) (hg : Gl X "zip" := by rfl) (hs : starEach [e, e2] X.env = (false, eval e X.env) :: starEach [e2] X.env := by rfl) (hpl : (backTo pos (starEach [e2] X.env)).any (·.1) = false := by rfl) :
    LI X c W (.Tuple elts kk tpos) (.Call (.Name "zip" p) [e, e2] [] pos) (bnd m fun ds => opt (iZ ds)) := by
  refine ⟨fun pins s σ H R I h => ?_⟩
  refine (RZ.pi_zipA hg hm ha hs hpl).run pins s σ H R I ?_
  obtain ⟨l, S, rp, po⟩ := h
  refine ⟨l, S, rp, ?_⟩
  cases em : m S with
  | no =>
    rw [bnd_no em] at po
    exact po
  | er y S1 =>
    rw [bnd_er em] at po
    exact po
  | ok ds S1 =>
    rw [bnd_ok em] at po
    intro vs H1 l1 rp1 g1 ⟨da, _⟩
    cases ez : iZ ds with
    | none =>
      rw [ez] at po
      exact po.elim
    | some zs =>
      rw [ez] at po
      obtain ⟨xs, ys, hz, rfl, hd⟩ := iZ_some ez
      have hz : xs.length ≤ sizeLine := by rw [sizeLine_eq]; exact hz
      rcases hd with rfl | rfl
      · cases da with
        | cons d1 da =>
          cases da with
          | cons d2 da =>
            cases da
            cases d1 with
            | @lst a ws _ h1 h2 =>
              cases d2 with
              | @lst b us _ k1 k2 =>
                exact ⟨a, b, ws, us, rfl, .inl ⟨SqL.of (rp1.rt.lh _ _ h1), SqL.of (rp1.rt.lh _ _ k1), po _ H1 l1 rp1 g1 (wk_zipL (SqL.of h1) (SqL.of k1) h2 k2 hz)⟩⟩
      · cases da with
        | cons d1 da =>
          cases da with
          | cons d2 da =>
            cases da
            cases d1 with
            | @tup a ws _ h1 h2 =>
              cases d2 with
              | @tup b us _ k1 k2 =>
                exact ⟨a, b, ws, us, rfl, .inr ⟨rp1.rt.lh.sqT h1.sqT, rp1.rt.lh.sqT k1.sqT, po _ H1 l1 rp1 g1 (wk_zipT h1.sqT k1.sqT h2 k2 hz)⟩⟩
/-! ### sorted(pairs) -/
def asPs : List D → Option (List (Int × Int))
  | [] => some []
  | .tup [.int i, .int j] :: ds => (asPs ds).map ((i, j) :: ·)
  | _ :: _ => none
def ofP (p : Int × Int) : D := .tup [.int p.1, .int p.2]
theorem asPs_eq : ∀ {ds : List D} {ps : List (Int × Int)}, asPs ds = some ps → ds = ps.map ofP
  | [], ps, h => by
    cases h
    rfl
  | d :: ds, ps, h => by
    unfold asPs at h
    split at h
    · rename_i e
      cases e
    · rename_i i j es e
      cases e
      cases q : asPs ds with
      | none =>
        rw [q] at h
        cases h
      | some qs =>
        rw [q] at h
        cases h
        rw [asPs_eq q]
        rfl
    · cases h
@[simp] theorem asPs_map : ∀ ps : List (Int × Int), asPs (ps.map ofP) = some ps
  | [] => rfl
  | p :: ps => by
    show (asPs (ps.map ofP)).map (p :: ·) = _
    rw [asPs_map ps]
    rfl
def leP (p q : Int × Int) : Bool := decide (p.1 < q.1) || (decide (p.1 = q.1) && decide (p.2 ≤ q.2))
def dSortP : List D → Option D
  | [.lst xs] => (asPs xs).map fun ps => .lst ((ps.mergeSort leP).map ofP)
  | _ => none
/-- pairs of whole numbers that stand in tuples -/
def PT (K : PySem.W.Frag) (H : Hp) : List V → List (Int × Int) → Prop
  | [], [] => True
  | x :: xs, p :: ps => (∃ t, x = V.ref t ∧ SqT K H t [.int p.1, .int p.2]) ∧ PT K H xs ps
  | _, _ => False
theorem PT.get {H : Hp} : ∀ {xs : List V} {ps : List (Int × Int)}, PT K H xs ps → ∀ (i : Nat) (x : V), xs[i]? = some x → ∃ p t, ps[i]? = some p ∧ x = V.ref t ∧ SqT K H t [.int p.1, .int p.2]
  | [], [], _, i, x, e => by simp at e
  | y :: xs, p :: ps, ⟨⟨t, h1, h2⟩, _⟩, 0, x, e => by
    simp at e
    subst e
    exact ⟨p, t, rfl, h1, h2⟩
  | y :: xs, p :: ps, ⟨_, h⟩, i + 1, x, e => by
    obtain ⟨q, t, a, b⟩ := PT.get h i x (by simpa using e)
    exact ⟨q, t, by simpa using a, b⟩
theorem PT.len {H : Hp} : ∀ {xs : List V} {ps : List (Int × Int)}, PT K H xs ps → xs.length = ps.length
  | [], [], _ => rfl
  | y :: xs, p :: ps, ⟨_, h⟩ => by simp [PT.len h]
theorem sortP_uniq {ns ms : List (Int × Int)} (h1 : ms.Perm ns) (h2 : ms.Pairwise fun a b => leP a b = true) : ms = ns.mergeSort leP := by
  refine List.Perm.eq_of_pairwise (le := fun a b => leP a b = true) (fun a b _ _ x y => ?_) h2 ?_ (h1.trans (List.mergeSort_perm _ _).symm)
  · simp [leP] at x y
    exact Prod.ext (by omega) (by omega)
  · exact List.pairwise_mergeSort (le := leP) (fun a b c h1 h2 => by simp [leP] at *; omega) (fun a b => by simp [leP]; omega) ns
/-- sorted(xs), xs a list of pairs of ints -/
def rSortedPT (K : PySem.W.Frag) : List V → Hp → VK → Prop := fun vs H Q => ∃ (a : Addr) (xs : List V) (ps : List (Int × Int)), vs = [V.ref a] ∧ SqL K H a xs ∧ PT K H xs ps ∧
  ∀ ys p, ys.length = xs.length → (∀ (j : Nat) (y : V), ys[j]? = some y → ∃ i : Nat, xs[i]? = some y ∧ ps[i]? = (ps.mergeSort leP)[j]?) → H p = none → Q (.ref p) (upd H p (.lst ys))
open Classical in
theorem cr_sortedPT : CallR X (.builtin "sorted") (rSortedPT X.K) := by
  intro pins s σ H vs us Q I r h
  obtain ⟨a, xs, ps, rfl, hs, hx, q⟩ := h
  -- the key of a tuple
  let k : V → Int × Int := fun x => if h : ∃ p : Int × Int, ∃ t, x = V.ref t ∧ SqT X.K H t [.int p.1, .int p.2] then h.choose else (0, 0)
  have kk : ∀ {x : V} {p : Int × Int} {t : Addr}, x = V.ref t → SqT X.K H t [.int p.1, .int p.2] → k x = p := fun {x p t} e ht => by
    have h : ∃ p : Int × Int, ∃ t, x = V.ref t ∧ SqT X.K H t [.int p.1, .int p.2] := ⟨p, t, e, ht⟩
    have e1 : k x = h.choose := dif_pos h
    obtain ⟨t', e', ht'⟩ := h.choose_spec
    rw [e] at e'
    cases e'
    have := I.tuple_inj ht' ht
    simp at this
    rw [e1]
    exact Prod.ext this.1 this.2
  have key : ∀ (xs : List V) (ps : List (Int × Int)), PT X.K H xs ps → xs.map k = ps := fun xs => by
    induction xs with
    | nil =>
      intro ps h
      cases ps with
      | nil => rfl
      | cons p ps => exact h.elim
    | cons x xs ih =>
      intro ps h
      cases ps with
      | nil => exact h.elim
      | cons p ps =>
        obtain ⟨⟨t, e, ht⟩, h⟩ := h
        rw [List.map_cons, ih ps h, kk e ht]
  have eps := key xs ps hx
  obtain ⟨its, rv, hl, hz⟩ := I.list hs
  obtain ⟨u, rfl, ru⟩ := vals1 r
  obtain rfl : u = Value.ref a := ru
  have at_ : ∀ x ∈ xs, ∃ t, x = V.ref t ∧ SqT X.K H t [.int (k x).1, .int (k x).2] := fun x hm => by
    obtain ⟨i, hi⟩ := List.mem_iff_getElem?.mp hm
    obtain ⟨p, t, _, e, ht⟩ := hx.get i x hi
    exact ⟨t, e, by rw [kk e ht]; exact ht⟩
  obtain ⟨e1, e2⟩ := refs_back rv fun x m => by
    obtain ⟨t, e, _⟩ := at_ x m
    exact ⟨t, e⟩
  refine SrtO.sorted_pairsO (k := fun u => k (backV u)) hl.isList (by rw [← rv.length]; exact hz) (fun v hv => ?_) fun h' d out h1 h2 kp hd hn => ?_
  · obtain ⟨t, rfl⟩ := e2 v hv
    have hm : V.ref t ∈ xs := by rw [e1]; exact List.mem_map.mpr ⟨_, hv, rfl⟩
    obtain ⟨t', e, ht⟩ := at_ _ hm
    cases e
    obtain ⟨its2, r2, ⟨o, ho, hc, n, hd⟩, _⟩ := I.tuple ht
    obtain ⟨u1, u2, rfl, ri, rj⟩ := vals2 r2
    obtain ⟨t1, rfl⟩ := ri
    obtain ⟨t2, rfl⟩ := rj
    exact ⟨t, o, t1, t2, n, rfl, ho, hc, hd⟩
  · have h3 : ∀ u ∈ out, ∃ a, u = Value.ref a := fun u hu => e2 u (h2.perm.mem_iff.mp hu)
    obtain ⟨n, hn⟩ := hn
    have hb : SrtO.Stb (ltP k) (out.map backV) xs := by
      rw [e1]
      exact SrtO.Stb.map (ltP_swo k) backV h2
    have hsr : SrtO.Srtd (ltP k) (out.map backV) := SrtO.srtd_map h1
    have hms : (out.map backV).map k = ps.mergeSort leP := by
      refine sortP_uniq ?_ ?_
      · rw [← eps]
        exact hb.perm.map k
      · rw [List.pairwise_map]
        refine List.Pairwise.imp (fun {x y} h => ?_) hsr
        have h := SrtO.lexB_no.mp h
        simp [leP]
        omega
    refine ⟨.ref d, upd H d (.lst (out.map backV)), I.laid (t' := s.toks) kp hd ⟨?_, out, n, vals_back h3, hn⟩, rfl, q _ d hb.len (fun j y hy => ?_) (I.hok.fresh hd)⟩
    · rw [hb.len]
      exact hz
    · obtain ⟨i, hi⟩ := List.mem_iff_getElem?.mp (hb.perm.mem_iff.mp (List.mem_of_getElem? hy))
      refine ⟨i, hi, ?_⟩
      rw [← hms, List.getElem?_map, hy, ← eps, List.getElem?_map, hi]
theorem pt_of {l : Lh} {H : Hp} (x : Ext l.L H) : ∀ {vs : List V} {ps : List (Int × Int)}, DtAll K l vs (ps.map ofP) → PT K H vs ps
  | _, [], h => by
    cases h
    trivial
  | _, p :: ps, h => by
    cases h with
    | cons a b =>
      refine ⟨?_, pt_of x b⟩
      cases a with
      | tup h1 h2 =>
        cases h2 with
        | cons a1 h2 =>
          cases h2 with
          | cons a2 h2 =>
            cases h2
            cases a1
            cases a2
            exact ⟨_, rfl, x.sqT h1.sqT⟩
theorem dt_by {l : Lh} {vs ys : List V} {ds es : List D} (h : DtAll K l vs ds) (hl : ys.length = es.length) (k : ∀ (j : Nat) (y : V), ys[j]? = some y → ∃ i : Nat, vs[i]? = some y ∧ ds[i]? = es[j]?) : DtAll K l ys es := by
  induction ys generalizing es with
  | nil =>
    cases es with
    | nil => exact .nil
    | cons e es => cases hl
  | cons y ys ih =>
    cases es with
    | nil => cases hl
    | cons e es =>
      refine .cons ?_ (ih (by simpa using hl) fun j z hz => k (j + 1) z (by simpa using hz))
      obtain ⟨i, h1, h2⟩ := k 0 y rfl
      obtain ⟨d, h3, h4⟩ := h.getV h1
      rw [h3] at h2
      cases h2
      exact h4
theorem sm_sortP : SemB K dSortP (rSortedPT K) := by
  intro l H vs as d Q x r e g
  unfold dSortP at e
  split at e
  · rename_i xs
    cases ei : asPs xs with
    | none =>
      rw [ei] at e
      cases e
    | some ps =>
      rw [ei] at e
      cases e
      obtain ⟨v, rfl, rr⟩ := r.one
      obtain ⟨p, ws, rfl, h1, h2⟩ := rr.lst x
      rw [asPs_eq ei] at h2
      refine ⟨p, ws, ps, rfl, SqL.of h1, pt_of x h2, fun ys q hlen hk hq => ?_⟩
      refine g.lst (dt_by h2 ?_ fun j y hy => ?_) q hq (x.none hq)
      · rw [hlen, h2.length, List.length_map, List.length_map, List.length_mergeSort]
      · obtain ⟨i, k1, k2⟩ := hk j y hy
        exact ⟨i, k1, by rw [List.getElem?_map, List.getElem?_map, k2]⟩
  · cases e
theorem le_sortP {a : Expr} {o : Opd} {p pos : Pos} (hm : X.mg "sorted" = none) (ha : LO X c W a o) (hg : Gl X "sorted" := by rfl) (he : starEach [a] X.env = (false, eval a X.env) :: starEach [] X.env := by rfl) : LE X c W (.Call (.Name "sorted" p) [a] [] pos) (mBi dSortP [o]) :=
  le_blt (id := "sorted") cr_sortedPT sm_sortP hm (los_cons ha los_nil he) hg (hst := he)
end
end Lw

set_option Elab.async false
set_option linter.all false
set_option maxRecDepth 100000
set_option maxHeartbeats 4000000
/-! Lw: pop, a list unpacked, range(a, b, -1), reversed(xs), a, b, c = x, y, z. -/
namespace Lw
open PySem PySem.Spec PyProof.Rows L2
/-- x.pop(), x's own list -/
def mPop (i : Nat) : M D := fun s => match s.σ[i]? with
  | some (some (.l xs)) => (match xs[xs.length - 1]? with
    | some d => .ok d { s with σ := s.σ.set i (some (.l xs.dropLast)) }
    | none => .no)
  | _ => .no
theorem DtAll.dropLast {K : PySem.W.Frag} {l : Lh} {vs : List V} {ds : List D} (h : DtAll K l vs ds) : DtAll K l vs.dropLast ds.dropLast := by
  rw [List.dropLast_eq_take, List.dropLast_eq_take, h.length]
  exact h.take _
section
variable {X : Cx} {c : Pk} {W : WX} {K : PySem.W.Frag}
theorem le_pop (i : Nat) {x : Str} {px apos cpos : Pos} (hN : X.N[i]? = some x := by rfl) (hv : Vis X.env.scope x := by first | exact Or.inl rfl | exact Or.inr (Or.inl rfl) | exact Or.inr (Or.inr rfl)) (hd : (x == ("__debug__" : Str)) = false := by decide) (hcd : (x == ("__classdict__" : Str)) = false := by decide)
    (hbase : attributeBase (.Name x px) "pop" X.env (eval (.Name x px) X.env) = eval (.Name x px) X.env := by rfl) (hline : (apos.endLine == cpos.line) = true := by rfl) :
    LE X c W (.Call (.Attribute (.Name x px) "pop" apos) [] [] cpos) (mPop i) :=
  PE.imp (pe_bm0 PySem.F.plainAttrs_list PySem.F.slot_list_pop PySem.F.type_list_pop mt_pop (pv i hN hv hd hcd) hbase hline) fun σ H Q ⟨l, S, rp, po⟩ => by
    have po : Po X.K c W l σ (Dt X.K) Q (match S.σ[i]? with
      | some (some (.l xs)) => (match xs[xs.length - 1]? with
        | some d => .ok d { S with σ := S.σ.set i (some (.l xs.dropLast)) }
        | none => .no)
      | _ => .no) := po
    split at po
    · rename_i xs e0
      split at po
      · rename_i d ed
        obtain ⟨a, ws, h1, h2, h3, h4, h5, h6⟩ := rp.so i xs e0
        rw [← h3.length] at ed
        obtain ⟨v, ev, dv⟩ := h3.get ed
        exact ⟨.ref a, h1, .inl ⟨rfl, _, SqL.of h2⟩, a, ws, v, rfl, rfl, h2, ev, po v _ l (rp.wr e0 h1 h3.dropLast) (Gr.refl _) dv⟩
      · exact po.elim
    · exact po.elim
/-! ### a, b = a list or a tuple -/
def gU (gs : List Tg) : Tg := fun d => match d with
  | .tup ds => gAll gs ds
  | .lst ds => gAll gs ds
  | _ => stuck
theorem lg_u {vs0 : Nat → Prop} {es : List Expr} {k : Nat} {gs : List Tg} {pos : Pos} (hc : X.calm = true) (h : LGs X c vs0 es gs) (hn : (assignEach es X.env).length = gs.length := by rfl) (hst : (assignEach es X.env).findIdx? (·.1) = none := by rfl) :
    LG X c vs0 (.Tuple es k pos) (gU gs) := ⟨fun pins s σ H v u Q I r ⟨l, S, d, rp, dt, q⟩ => by
  have len : ∀ {ds : List D}, (match gAll gs ds S with
      | .ok _ S' => ∀ σ' H' l', Rep X.K c l' S' σ' H' → Gr l l' → Off vs0 σ σ' → Q σ' H'
      | _ => False) → ds.length = gs.length := fun {ds} q => by
    cases e : gAll gs ds S with
    | ok u S' => exact gAll_len e
    | er x S' =>
      rw [e] at q
      exact q.elim
    | no =>
      rw [e] at q
      exact q.elim
  cases dt with
  | @tup a xs ds hs hd => exact (pg_tup (n := gs.length) hc h.run hn hst).run pins s σ H _ u Q I r ⟨a, xs, rfl, rp.rt.lh.sqT hs.sqT, hd.length.trans (len q), l, S, ds, rp, hd, q⟩
  | @lst a xs ds hs hd => exact (pg_lst (n := gs.length) hc h.run hn hst).run pins s σ H _ u Q I r ⟨a, xs, rfl, SqL.of (rp.rt.lh _ _ hs), hd.length.trans (len q), l, S, ds, rp, hd, q⟩
  | _ => exact q.elim⟩
/-! ### range(a, b, -1) -/
def rgD (a b : Int) : List D := (List.range (a - b).toNat).map fun (i : Nat) => .int (a - i)
def rgDOk (a b : Int) : Bool := decide (a.natAbs < 4611686018427387904) && decide (b.natAbs < 4611686018427387904) && decide ((a - b).toNat ≤ line)
def iRg3 : List D → Option (List D)
  | [.int a, .int b, .int c] => if c = -1 ∧ rgDOk a b = true then some (rgD a b) else none
  | _ => none
def mRg3 (m : M (List D)) : M (List D) := bnd m fun ds => opt (iRg3 ds)
theorem iRg3_some {ds xs : List D} (h : iRg3 ds = some xs) : ∃ a b, ds = [.int a, .int b, .int (-1)] ∧ rgDOk a b = true ∧ xs = rgD a b := by
  unfold iRg3 at h
  split at h
  · split at h
    · rename_i q
      cases h
      exact ⟨_, _, by rw [q.1], q.2, rfl⟩
    · cases h
  · cases h
theorem rgDOk_c {a b : Int} (h : rgDOk a b = true) : RgC a b (-1) (a - b).toNat ∧ (a - b).toNat ≤ line := by
  unfold rgDOk at h
  simp only [Bool.and_eq_true, decide_eq_true_eq] at h
  obtain ⟨⟨h1, h2⟩, h5⟩ := h
  exact ⟨RgC.neg (by omega) (by omega) (by omega) (by omega), h5⟩
theorem wk_rg3 {l : Lh} {a b : Int} (h : (a - b).toNat ≤ line) : Wk K l (Itc a (-1) (a - b).toNat) (rgD a b) := by
  have hl : (rgD a b).length = (a - b).toNat := by simp [rgD]
  refine ⟨by rw [hl, sizeLine_eq]; exact h, fun _ => True, YFn fun i => .int (a + (i : Nat) * (-1)), ?_, fun _ _ => trivial, fun i H x H1 l1 hi g1 x1 y => ?_⟩
  · rw [hl]
    exact walk_rangeC
  · obtain ⟨e1, e2⟩ := y
    rw [hl] at hi
    refine ⟨.int (a - i), by simp [rgD, hi], .inl ⟨e1, ?_⟩⟩
    rw [e2]
    have : a + (i : Int) * (-1) = a - i := by omega
    show Dt K l1 (V.int (a + (i : Int) * (-1))) _
    rw [this]
    exact .int _
theorem li_rg3 {tg a b d : Expr} {m : M (List D)} {p pos : Pos} (hm : X.mg "range" = none) (ha : LA X c W [a, b, d] m) (hg : Gl X "range" := by rfl) (hs : starEach [a, b, d] X.env = (false, eval a X.env) :: starEach [b, d] X.env := by rfl) (hpl : (backTo pos (starEach [b, d] X.env)).any (·.1) = false := by rfl) :
    LI X c W tg (.Call (.Name "range" p) [a, b, d] [] pos) (mRg3 m) := by
  refine ⟨fun pins s σ H R I h => ?_⟩
  refine (pi_range3 hg hm ha hs hpl).run pins s σ H R I ?_
  obtain ⟨l, S, rp, po⟩ := h
  refine ⟨l, S, rp, ?_⟩
  unfold mRg3 at po
  cases em : m S with
  | no =>
    rw [bnd_no em] at po
    exact po
  | er y S1 =>
    rw [bnd_er em] at po
    exact po
  | ok ds S1 =>
    rw [bnd_ok em] at po
    intro vs H1 l1 rp1 g1 ⟨da, _⟩
    cases ez : iRg3 ds with
    | none =>
      rw [ez] at po
      exact po.elim
    | some zs =>
      rw [ez] at po
      obtain ⟨u, v, rfl, ok, rfl⟩ := iRg3_some ez
      obtain ⟨k1, k2⟩ := rgDOk_c ok
      cases da with
      | cons d1 da =>
        cases da with
        | cons d2 da =>
          cases da with
          | cons d3 da =>
            cases da
            cases d1
            cases d2
            cases d3
            exact ⟨u, v, -1, _, rfl, k1, po _ H1 l1 rp1 g1 (wk_rg3 k2)⟩
theorem vals_rgD {a b : Int} {acc : Array Value} (h : ItemsOf (fun i v => ∃ t, v = .int (a + i * (-1)) t) acc (a - b).toNat) : Vals ((rgD a b).map fun d => match d with | .int i => V.int i | _ => .non) acc.toList := by
  have e : acc.toList.length = (a - b).toNat := by rw [Array.length_toList]; exact h.1
  have : ((rgD a b).map fun d => match d with | .int i => V.int i | _ => .non) = (List.range acc.toList.length).map fun (i : Nat) => V.int (a - i) := by
    unfold rgD
    rw [e, List.map_map]
    rfl
  rw [this]
  refine vals_of_get acc.toList _ fun j u hj => ?_
  obtain ⟨t, rfl⟩ := h.2 j u (by rw [← hj, Array.getElem?_toList])
  exact ⟨t, by rw [show a + (j : Int) * (-1) = a - j by omega]⟩
theorem rgD_dt {l : Lh} (a b : Int) : DtAll K l ((rgD a b).map fun d => match d with | .int i => V.int i | _ => .non) (rgD a b) := by
  unfold rgD
  rw [List.map_map]
  have key : ∀ ns : List Nat, DtAll K l (ns.map ((fun d => match d with | .int i => V.int i | _ => .non) ∘ fun (i : Nat) => D.int (a - i))) (ns.map fun (i : Nat) => D.int (a - i)) := fun ns => by
    induction ns with
    | nil => exact .nil
    | cons n ns ih => exact .cons (.int _) ih
  exact key _
/-- list(range(a, b, -1)) -/
theorem lf_listRg3 {a b d : Expr} {m : M (List D)} {p p2 pos pos2 : Pos} (hc : X.calm = true) (hml : X.mg "list" = none) (hm : X.mg "range" = none) (ha : LA X c W [a, b, d] m) (hgl : Gl X "list" := by rfl) (hg : Gl X "range" := by rfl)
    (na : starEach [.Call (.Name "range" p2) [a, b, d] [] pos2] X.env = (false, eval (.Call (.Name "range" p2) [a, b, d] [] pos2) X.env) :: starEach [] X.env := by rfl) (hs : starEach [a, b, d] X.env = (false, eval a X.env) :: starEach [b, d] X.env := by rfl) (hpl : (backTo pos2 (starEach [b, d] X.env)).any (·.1) = false := by rfl) :
    LF X c W (.Call (.Name "list" p) [.Call (.Name "range" p2) [a, b, d] [] pos2] [] pos) (mRg3 m) := by
  refine ⟨fun pins s σ H Q I h => ?_⟩
  obtain ⟨l, S, rp, po⟩ := h
  have h0 : liftA X.K c W 3 m σ H fun vs H1 => ∃ u v l1 S1, vs = [.int u, .int v, .int (-1)] ∧ rgDOk u v = true ∧ Rep X.K c l1 S1 σ H1 ∧ Gr l l1 ∧ RF X.K c W l1 σ Q (.ok (rgD u v) S1) := by
    refine ⟨l, S, rp, ?_⟩
    unfold mRg3 at po
    cases em : m S with
    | no =>
      rw [bnd_no em] at po
      exact po
    | er y S1 =>
      rw [bnd_er em] at po
      exact po
    | ok ds S1 =>
      rw [bnd_ok em] at po
      intro vs H1 l1 rp1 g1 ⟨da, _⟩
      cases ez : iRg3 ds with
      | none =>
        rw [ez] at po
        exact po.elim
      | some zs =>
        rw [ez] at po
        obtain ⟨u, v, rfl, ok, rfl⟩ := iRg3_some ez
        cases da with
        | cons d1 da =>
          cases da with
          | cons d2 da =>
            cases da with
            | cons d3 da =>
              cases da
              cases d1
              cases d2
              cases d3
              exact ⟨u, v, l1, S1, rfl, ok, rp1, g1, fun p vs H' l' rp' g' hp ua dt => po p vs H' l' rp' (g1.trans g') hp ua dt⟩
  refine Call_ (ld_blt I hgl hml boot_list (PyProof.Rows.callWith_type1 (args_cons (Call_ (ld_blt I hg hm boot_range (PyProof.Rows.callWith_type1 (thn (PA.run ha pos2 pins s σ H _ I h0) fun us s1 ⟨vs, H1, I1, r1, u, v, l1, S1, ev, ok, rp1, g1, rf⟩ => ?_) hs hpl))) na) na))
  subst ev
  obtain ⟨⟨c0, c1, c2, c3⟩, k2⟩ := rgDOk_c ok
  cases r1 with
  | cons r rr =>
    cases rr with
    | cons r' rr =>
      cases rr with
      | cons r'' rr =>
        cases rr
        obtain ⟨t, rfl⟩ := r
        obtain ⟨t', rfl⟩ := r'
        obtain ⟨t'', rfl⟩ := r''
        refine call_range_3 c0 ?_ (.inl (PyProof.noPylong_small c1))
        have I2 : Inv X pins σ H1 { s1 with heap := s1.heap.push { cls := .type "range", data := .fields #[.int u t, .int v t', .int (-1) t''] } } := I1.kept (t' := s1.toks) fun b o e => Heap.get?_push_of_some _ e
        refine args_nil ?_
        refine call_list_range (n := (u - v).toNat) (I2.ok.hd hc) (IsRange.new _ _ _ _ _ _ _) c2 c3 (by have : line = 16777216 := rfl; omega) fun h' tk acc c' hk e' hi => ?_
        have hq := I2.hok.fresh (Nat.le_refl _)
        have n := rp1.new (vs := (rgD u v).map fun d => match d with | .int i => V.int i | _ => .non) hq
        refine ⟨.ref _, upd H1 _ (.lst ((rgD u v).map fun d => match d with | .int i => V.int i | _ => .non)), I2.laid hk (Nat.le_refl _) (show ObjOk X.prog X.w _ _ _ (.lst _) from ⟨?_, acc.toList, c', vals_rgD hi, ?_⟩), rfl, rf _ _ _ l1 n.1 (Gr.refl _) upd_same n.2 (rgD_dt u v)⟩
        · rw [List.length_map, sizeLine_eq]
          have : (rgD u v).length = (u - v).toNat := by simp [rgD]
          rw [this]
          exact k2
        · rw [Array.toArray_toList]
          exact e'
/-! ### reversed(xs), xs a list -/
def lenD : D → Nat
  | .lst xs => xs.length
  | _ => 0
def iRevD : D → Option (List D)
  | .lst xs => some xs.reverse
  | _ => none
theorem wk_rev {l : Lh} {a : Addr} {vs : List V} {ds : List D} (h : SqL K l.L a vs) (hd : DtAll K l vs ds) (hz : ds.length ≤ sizeLine) : Wk K l (Itv K a vs.length) ds.reverse := by
  refine ⟨by rw [List.length_reverse]; exact hz, fun H => SqL K H a vs, fun i H x H' => H' = H ∧ vs[vs.length - 1 - i]? = some x, ?_, fun H x => x.sqL h, fun i H x H1 l1 hi g1 x1 ⟨e1, e2⟩ => ?_⟩
  · rw [List.length_reverse, ← hd.length]
    exact walk_rev
  · rw [List.length_reverse] at hi
    obtain ⟨d, h1, h2⟩ := hd.getV e2
    refine ⟨d, ?_, .inl ⟨e1, h2.grow g1⟩⟩
    rw [List.getElem?_reverse hi, ← hd.length]
    exact h1
theorem li_rev {tg e : Expr} {m : M D} {p pos : Pos} (hm : X.mg "reversed" = none) (he : LE X c W e m) (hg : Gl X "reversed" := by rfl) (hs : starEach [e] X.env = (false, eval e X.env) :: starEach [] X.env := by rfl) : LI X c W tg (.Call (.Name "reversed" p) [e] [] pos) (bnd m fun a => opt (if lenD a ≤ line then iRevD a else none)) := by
  refine ⟨fun pins s σ H R I h => ?_⟩
  refine (RT.pi_revA hg hm he hs).run pins s σ H R I ?_
  obtain ⟨l, S, rp, po⟩ := h
  refine ⟨l, S, rp, ?_⟩
  cases em : m S with
  | no =>
    rw [bnd_no em] at po
    exact po
  | er y S1 =>
    rw [bnd_er em] at po
    exact po
  | ok d S1 =>
    rw [bnd_ok em] at po
    intro v H1 l1 rp1 g1 dt
    by_cases hz : lenD d ≤ line
    · rw [if_pos hz] at po
      cases dt with
      | @lst a ws ds h1 h2 => exact ⟨a, ws, rfl, .inl ⟨SqL.of (rp1.rt.lh _ _ h1), po _ H1 l1 rp1 g1 (wk_rev (SqL.of h1) h2 (by rw [sizeLine_eq]; exact hz))⟩⟩
      | _ => exact po.elim
    · rw [if_neg hz] at po
      exact po.elim
end
end Lw

set_option Elab.async false
set_option linter.all false
set_option maxRecDepth 100000
set_option maxHeartbeats 4000000
/-! Lw: a, b, c = x, y, z; any of numbers. -/
namespace Lw
open PySem PySem.Spec PyProof.Rows L2
def tPar3 (i j k : Nat) (ta : TA) : TS := fun D σ H => ta σ H fun vs H1 => ∃ v w u, vs = [v, w, u] ∧ D.nx (((σ.set i (some v)).set j (some w)).set k (some u)) H1
section
variable {X : Cx} {c : Pk} {W : WX} {T : List (Addr × Str)}
theorem ps_par3 {i j k : Nat} {x y z : Str} {a b d : Expr} {ta : TA} {px py pz pt pos : Pos} {kt k2 pt2} (hc : X.calm = true) (hN : X.N.Nodup) (hi : X.N[i]? = some x) (hj : X.N[j]? = some y) (hk : X.N[k]? = some z) (hij : i ≠ j) (hik : i ≠ k) (hjk : j ≠ k)
    (hx : X.env.scope.names.lookup x = some .local) (hy : X.env.scope.names.lookup y = some .local) (hz : X.env.scope.names.lookup z = some .local) (ha : PA X [a, b, d] ta)
    (hw : swappedStores [.Tuple [.Name x px, .Name y py, .Name z pz] kt pt] (.Tuple [a, b, d] k2 pt2) X.env = pure (some [x, y, z]))
    (hs : swapsWithSole [.Tuple [.Name x px, .Name y py, .Name z pz] kt pt] (.Tuple [a, b, d] k2 pt2) pos.line X.env = pure false := by rfl) :
    PS X (.Assign [.Tuple [.Name x px, .Name y py, .Name z pz] kt pt] (.Tuple [a, b, d] k2 pt2) pos) (tPar3 i j k ta) := by
  refine ⟨fun pins s σ H D I h => ?_⟩
  rw [exec_Assign_arm]
  refine wpAny_bind (wpAny_standAt ?_)
  rw [hs]
  refine wpAny_bind (wpAny_pure ?_)
  rw [if_neg (by decide)]
  refine wpAny_bind (Tuple_ (thn (ha.run _ pins s σ H _ I h) fun us s1 ⟨vs, H1, I1, r1, q1⟩ => ?_))
  obtain ⟨v, w, o, e1, q1⟩ := q1
  subst e1
  obtain ⟨u1, u2, u3, rfl, rv, rw', ro⟩ : ∃ u1 u2 u3, us = [u1, u2, u3] ∧ RelV v u1 ∧ RelV w u2 ∧ RelV o u3 := by
    cases r1 with
    | cons p q =>
      cases q with
      | cons p' q' =>
        cases q' with
        | cons p'' q'' =>
          cases q''
          exact ⟨_, _, _, rfl, p, p', p''⟩
  refine wpAny_newObj_type ?_ (by show 3 ≤ sizeLine; decide)
  have I2 : Inv X pins σ H1 { s1 with heap := s1.heap.push { cls := .type "tuple", data := .seq [u1, u2, u3].toArray } } := I1.kept (t' := s1.toks) fun b o e => Heap.get?_push_of_some _ e
  rw [hw]
  refine wpAny_bind (wpAny_pure ?_)
  show wpAny (model X.prog X.w) X.A (do rule "assign.swapped-stores"; let items ← unpackItems (.ref s1.heap.objs.size) 3 none; assignInOrder [fun v => bindName X.env z v, fun v => bindName X.env y v, fun v => bindName X.env x v] items.reverse; pure Flow.next) _ _ _
  refine wpAny_bind (wpAny_rule (wpAny_bind (unpackItems_tuple (items := #[u1, u2, u3]) (I.ok.hd hc) (IsTup.new s1.heap _) fun h' hx' => ?_)))
  have I3 := I2.kept (h' := h') (t' := s1.toks) fun b o e => hx' b o (Nat.ne_of_lt (Heap.lt_size e)) e
  show wpAny _ _ (assignInOrder [fun v => bindName X.env z v, fun v => bindName X.env y v, fun v => bindName X.env x v] [u3, u2, u1] >>= fun _ => pure Flow.next) _ _ _
  refine wpAny_bind (assignInOrder_cons (wpAny_bindName (store_ok I3 hN hk (.inl hz) ro (fun s2 I4 => ?_) (.inr hz))))
  refine assignInOrder_cons (wpAny_bindName (store_ok I4 hN hj (.inl hy) rw' (fun s3 I5 => ?_) (.inr hy)))
  refine assignInOrder_cons (wpAny_bindName (store_ok I5 hN hi (.inl hx) rv (fun s4 I6 => assignInOrder_nil (wpAny_pure ?_)) (.inr hx)))
  have e : (((σ.set k (some o)).set j (some w)).set i (some v)) = (((σ.set i (some v)).set j (some w)).set k (some o)) := by
    rw [List.set_comm _ _ (Ne.symm hjk), List.set_comm _ _ (Ne.symm hik), List.set_comm _ _ (Ne.symm hij)]
  rw [e] at I6
  exact ⟨_, H1, I6, q1⟩
/-- a, b, c = x, y, z -/
theorem ls_par3 (i j k : Nat) {x y z : Str} {a b d : Expr} {rs : List Rhs} {px py pz pt pos : Pos} {kt k2 pt2} (hc : X.calm = true) (hN : X.N.Nodup) (eT : c.T = T) (ha : PRh X T W [a, b, d] rs) (hi : X.N[i]? = some x := by rfl) (hj : X.N[j]? = some y := by rfl) (hk : X.N[k]? = some z := by rfl) (hij : i ≠ j := by decide) (hik : i ≠ k := by decide) (hjk : j ≠ k := by decide)
    (hx : X.env.scope.names.lookup x = some .local := by rfl) (hy : X.env.scope.names.lookup y = some .local := by rfl) (hz : X.env.scope.names.lookup z = some .local := by rfl) (hw : swappedStores [.Tuple [.Name x px, .Name y py, .Name z pz] kt pt] (.Tuple [a, b, d] k2 pt2) X.env = pure (some [x, y, z]) := by rfl) :
    LS X c W (.Assign [.Tuple [.Name x px, .Name y py, .Name z pz] kt pt] (.Tuple [a, b, d] k2 pt2) pos) (sPar [i, j, k] rs) :=
  PS.imp (ps_par3 hc hN hi hj hk hij hik hjk hx hy hz (prh_run ha c eT) hw) fun En σ H h => by
    obtain ⟨l, S, rp, po⟩ := par_imp h
    refine ⟨l, S, rp, ?_⟩
    cases er : rhsM rs S with
    | no =>
      rw [er] at po
      exact po
    | er y S2 =>
      rw [er] at po
      exact po
    | ok ss S2 =>
      rw [er] at po
      intro vs H2 l2 rp2 g2 rs2
      obtain ⟨h1, h2⟩ := po vs H2 l2 rp2 g2 rs2
      match vs, h1, h2 with
      | [v, u, o], _, h2 => exact ⟨v, u, o, rfl, h2⟩
end
end Lw

set_option Elab.async false
set_option linter.all false
/-! Lw: e is True, e is False. -/
namespace Lw
open PySem PySem.Spec PyProof.Rows L2
section
variable {X : Cx} {K : PySem.W.Frag}
def dIsB : D → D → Option D
  | .bl a, .bl b => some (.bl (a == b))
  | _, _ => none
theorem op_isBl : OpR X (compareOp .Is) (fun x y H Q => ∃ a b, x = .bl a ∧ y = .bl b ∧ Q (.bl (a == b)) H) := by
  intro pins s σ H x y v u Q I rx ry h
  obtain ⟨a, b, rfl, rfl, q⟩ := h
  cases (show v = Value.bool a from rx)
  cases (show u = Value.bool b from ry)
  exact wpAny_is_plain rfl (fin_bl I q (by cases a <;> cases b <;> rfl))
theorem sm_isBl : Sem2 K dIsB (fun x y H Q => ∃ a b, x = .bl a ∧ y = .bl b ∧ Q (.bl (a == b)) H) := by
  intro l H v w a b d Q x ra rb e g
  unfold dIsB at e
  split at e
  · cases e
    exact ⟨_, _, ra.bl, rb.bl, g.1 _ (.bl _)⟩
  · cases e
end
end Lw

set_option Elab.async false
set_option linter.all false
set_option maxRecDepth 100000
set_option maxHeartbeats 4000000
/-! Lw: xs.count(k), a list of whole numbers. -/
namespace Lw
open PySem PySem.Spec PyProof.Rows L2
def intsD : List D → Option (List Int)
  | [] => some []
  | .int i :: r => (intsD r).map (i :: ·)
  | _ :: _ => none
theorem intsD_some : ∀ {ds : List D} {ns : List Int}, intsD ds = some ns → ds = ns.map .int
  | [], ns, h => by
    cases h
    rfl
  | d :: r, ns, h => by
    cases d with
    | int i =>
      have h : (intsD r).map (i :: ·) = some ns := h
      cases e : intsD r with
      | none =>
        rw [e] at h
        cases h
      | some ms =>
        rw [e] at h
        cases h
        rw [intsD_some e]
        rfl
    | _ => cases h
theorem intsD_map : ∀ ns : List Int, intsD (ns.map .int) = some ns
  | [] => rfl
  | n :: ns => by
    show (intsD (ns.map .int)).map (n :: ·) = _
    rw [intsD_map ns]
    rfl
def dCnt : D → D → Option D
  | .lst xs, .int k => (intsD xs).map fun ns => .int (ns.count k : Nat)
  | _, _ => none
theorem dCnt_ints (ns : List Int) (k : Int) : dCnt (.lst (ns.map .int)) (.int k) = some (.int (ns.count k : Nat)) := by
  show (intsD (ns.map .int)).map _ = _
  rw [intsD_map]
  rfl
def mCnt (mo me : M D) : M D := bnd mo fun a => match a with
  | .lst xs => bnd me fun k => opt (dCnt (.lst xs) k)
  | _ => stuck
@[simp] theorem q_mCnt (mo me : M D) (s : S) : mCnt mo me s = bnd mo (fun a => match a with
  | .lst xs => bnd me fun k => opt (dCnt (.lst xs) k)
  | _ => stuck) s := rfl
section
variable {X : Cx} {c : Pk} {W : WX}
theorem le_cnt {o e : Expr} {mo me : M D} {apos cpos : Pos} (ho : LE X c W o mo) (he : LE X c W e me)
    (hbase : attributeBase o "count" X.env (eval o X.env) = eval o X.env := by rfl)
    (hfew : ((backTo cpos (starEach [e] X.env)).all (fun x => !x.1) && (backToKw cpos (keywordEach [] X.env)).all (fun x => x.1.isSome)
      && decide ([e].length + ([] : List Keyword).length + (if ([] : List Keyword).isEmpty then 0 else 1) < 30)) = true := by rfl)
    (hline : (apos.endLine == cpos.line) = true := by rfl) (hs : starEach [e] X.env = (false, eval e X.env) :: starEach [] X.env := by rfl) : LE X c W (.Call (.Attribute o "count" apos) [e] [] cpos) (mCnt mo me) :=
  PE.imp (pe_bm PySem.F.plainAttrs_list PySem.F.slot_list_count PySem.F.type_list_count mt_lcount ho (pa_cons he pa_nil hs) hbase hfew hline hs) fun σ H Q ⟨l, S, rp, po⟩ => by
    refine ⟨l, S, rp, Po.bind (R := Dt X.K) po fun a S1 v H1 l1 _ rp1 g1 q1 po1 => ?_⟩
    cases q1 with
    | @lst p vs ds h1 h2 =>
      refine ⟨.inl ⟨rfl, vs, SqL.of (rp1.rt.lh _ _ h1)⟩, ?_⟩
      refine ⟨l1, S1, rp1, Po.bind (R := Dt X.K) po1 fun k S2 w H2 l2 _ rp2 g2 q2 po2 => ?_⟩
      obtain ⟨d, ed, po3⟩ := Po.opt po2
      cases k with
      | int i =>
        cases q2
        have ed : (intsD ds).map (fun ns => D.int (ns.count i : Nat)) = some d := ed
        cases en : intsD ds with
        | none =>
          rw [en] at ed
          cases ed
        | some ns =>
          rw [en] at ed
          cases ed
          have e1 := intsD_some en
          subst e1
          have e2 := h2.intsV
          subst e2
          refine ⟨p, ns, i, rfl, rfl, SqL.of (rp2.rt.lh _ _ (g2.1 _ _ h1)), po3 _ H2 l2 rp2 (Gr.refl _) (.int _)⟩
      | _ => cases ed
    | _ => exact po1.elim
end
end Lw

set_option Elab.async false
set_option linter.all false
set_option maxRecDepth 100000
set_option maxHeartbeats 4000000
/-! Lw: any(xs), xs a list of whole numbers or of truth values. -/
namespace Lw
open PySem PySem.Spec PyProof.Rows L2
theorem truth_nums {prog : Program} {w : World} {A : Around} {ns : List Int} {its : List Value} (rv : Vals (ns.map V.int) its) : TruthOf prog w A (fun i v => its.toArray[i]? = some v) (fun i => (ns.map (· != 0)).getD i false) := fun i v s Q E hv hq => by
  have h1 : its[i]? = some v := by simpa using hv
  have h2 := rv.length
  have hlt : i < ns.length := by
    have := (List.getElem?_eq_some_iff.mp h1).1
    simp at h2
    omega
  obtain ⟨u, e1, ru⟩ := Vals.get (i := i) (x := V.int ns[i]) rv (by simp [hlt])
  rw [h1] at e1
  cases e1
  obtain ⟨t, rfl⟩ := ru
  have hg : (ns.map (· != 0)).getD i false = (ns[i] != 0) := by simp [List.getD_eq_getElem?_getD, hlt]
  have hq : Q ((ns.map (· != 0)).getD i false) s := hq
  rw [hg] at hq
  exact PyProof.Rows.truthy_int hq
section
variable {X : Cx} {c : Pk} {W : WX} {K : PySem.W.Frag}
def rAnyN (K : PySem.W.Frag) : List V → Hp → VK → Prop := fun vs H Q => ∃ (a : Addr) (ns : List Int), vs = [V.ref a] ∧ SqL K H a (ns.map V.int) ∧ Q (.bl (ns.any (· != 0))) H
theorem cr_anyN (hc : X.calm = true) : CallR X (.builtin "any") (rAnyN X.K) := by
  intro pins s σ H vs us Q I r h
  obtain ⟨a, ns, rfl, hs, q⟩ := h
  obtain ⟨its, rv, hl, _⟩ := I.list hs
  rw [Vals.ref1 r]
  refine call_any_walk (iter_any hl.isList fun s₂ e2 st hne => ?_)
  subst e2
  refine ⟨_, _, _, _, _, _, _, rfl, Walks.list (A := X.A.in1) (I.ok.hd hc) _ a hne its.toArray, st, truth_nums rv, fun h' tk hk => ⟨.bl _, H, I.kept fun b o eo => hk b o (fun hm => ?_) (Heap.get?_push_of_some _ eo), ?_, q⟩⟩
  · rcases List.mem_cons.mp hm with e1 | hm
    · exact absurd (e1 ▸ Heap.lt_size eo) (Nat.lt_irrefl _)
    · exact absurd hm List.not_mem_nil
  · have e1 : ns.any (· != 0) = (ns.map (· != 0)).any id := by simp [List.any_map]
    have e2 := rv.length
    show Value.bool _ = Value.bool _
    rw [e1, ← L2.any_range, List.length_map, List.size_toArray, ← e2, List.length_map]
def dAnyN : List D → Option D
  | [.lst xs] => match asBls xs with
    | some bs => some (.bl (bs.any id))
    | none => (asInts xs).map fun ns => .bl (ns.any (· != 0))
  | _ => none
theorem sm_anyN : SemB K dAnyN (fun xs H Q => rAny K xs H Q ∨ rAnyN K xs H Q) := by
  intro l H vs as d Q x r e g
  unfold dAnyN at e
  split at e
  · rename_i xs
    split at e
    · rename_i bs eb
      cases e
      exact .inl (sm_any l H vs [.lst xs] (.bl (bs.any id)) Q x r (by simp [dAny, eb]) g)
    · cases ei : asInts xs with
      | none =>
        rw [ei] at e
        cases e
      | some ns =>
        rw [ei] at e
        cases e
        obtain ⟨v, rfl, rr⟩ := r.one
        obtain ⟨p, ws, rfl, h1, h2⟩ := rr.lst x
        rw [asInts_eq ei] at h2
        rw [h2.intsV] at h1
        exact .inr ⟨p, ns, rfl, SqL.of h1, g.1 _ (.bl _)⟩
  · cases e
theorem le_anyN {a : Expr} {o : Opd} {p pos : Pos} (hc : X.calm = true) (hm : X.mg "any" = none) (ha : LO X c W a o) (hg : Gl X "any" := by rfl) (he : starEach [a] X.env = (false, eval a X.env) :: starEach [] X.env := by rfl) : LE X c W (.Call (.Name "any" p) [a] [] pos) (mBi dAnyN [o]) :=
  le_blt (id := "any") (r := fun xs H Q => rAny X.K xs H Q ∨ rAnyN X.K xs H Q) (fun pins s σ H xs us Q I r h => h.elim (cr_any hc pins s σ H xs us Q I r) (cr_anyN hc pins s σ H xs us Q I r)) sm_anyN hm (los_cons ha los_nil he) hg (hst := he)
theorem anyN_ints (ns : List Int) : dAnyN [.lst (ns.map .int)] = some (.bl (ns.any (· != 0))) := by
  cases ns with
  | nil => rfl
  | cons n ns =>
    have e : asBls ((n :: ns).map .int) = none := rfl
    simp only [dAnyN, e, asInts_map]
    rfl
end
end Lw

set_option Elab.async false
set_option linter.all false
set_option maxRecDepth 100000
set_option maxHeartbeats 4000000
/-! Lw: t.count(k), a tuple of whole numbers. -/
namespace Lw
open PySem PySem.Spec PyProof.Rows L2
section
variable {X : Cx} {c : Pk} {W : WX}
def rCntT (K : PySem.W.Frag) : V → List V → Hp → VK → Prop := fun x xs H Q => ∃ (p : Addr) (ns : List Int) (k : Int), x = .ref p ∧ xs = [.int k] ∧ SqT K H p (ns.map V.int) ∧ Q (.int (ns.count k : Nat)) H
theorem mt_tcount : MtR X "tuple.count" (rCntT X.K) := by
  intro pins s σ H x xs v us Q I rx rxs h
  obtain ⟨p, ns, k, rfl, rfl, hs, q⟩ := h
  cases rx
  obtain ⟨u, rfl, ru⟩ := rxs.one
  obtain ⟨t, rfl⟩ := ru
  obtain ⟨its, rv, ⟨⟨cls, dd, data, sl⟩, ho, hc, n, hd⟩, hz⟩ := I.tuple hs
  dsimp only at hc hd
  subst hc hd
  have hi := ints_of_vals rv
  have ec : its.toArray.toList.countP (eqk k) = ns.count k := eqk_count hi
  refine call_meets PySem.F.slot_tuple_count ⟨_, ho, rfl⟩ PySem.F.entry_tuple_count (PySem.F.args_tuple_count_2 _ _) (SeqAt.tuple_countAt p its.toArray n dd sl (.int k t) (eqk k)) ⟨ho, fun y hy => (eqk_gives hi y (by simpa using hy)).at _ _, ?_⟩
  rw [ec]
  exact ⟨.int (ns.count k : Nat), H, I.tok _, ⟨s.toks, rfl⟩, q⟩
theorem sqN_is {pins : List (Addr × Obj)} {σ : L2.St} {H : Hp} {s : Shared} {a : Addr} {xs : List V} (I : Inv X pins σ H s) (h : SqN X.K H a xs) : s.TypeIs (.ref a) "tuple" ∧ ∀ b, Value.ref a = .ref b → ∃ ob, s.heap.get? b = some ob ∧ ob.dict = none := by
  rcases h with ⟨o, h, hd⟩ | ⟨o, its, n, hk, hc, hd, _⟩
  · obtain ⟨e, _, _, _, ob, e2, hc, _⟩ := I.hok a _ h
    rw [e] at e2
    cases e2
    refine ⟨⟨o, e, hc⟩, fun b eb => ?_⟩
    cases eb
    exact ⟨o, e, hd⟩
  · refine ⟨⟨o, I.kIn a o hk, hc⟩, fun b eb => ?_⟩
    cases eb
    exact ⟨o, I.kIn _ o hk, hd⟩
def dCntT : D → D → Option D
  | .tup xs, .int k => (intsD xs).map fun ns => .int (ns.count k : Nat)
  | _, _ => none
theorem dCntT_ints (ns : List Int) (k : Int) : dCntT (.tup (ns.map .int)) (.int k) = some (.int (ns.count k : Nat)) := by
  show (intsD (ns.map .int)).map _ = _
  rw [intsD_map]
  rfl
def mCntT (mo me : M D) : M D := bnd mo fun a => match a with
  | .tup xs => bnd me fun k => opt (dCntT (.tup xs) k)
  | _ => stuck
@[simp] theorem q_mCntT (mo me : M D) (s : S) : mCntT mo me s = bnd mo (fun a => match a with
  | .tup xs => bnd me fun k => opt (dCntT (.tup xs) k)
  | _ => stuck) s := rfl
theorem le_cntT {o e : Expr} {mo me : M D} {apos cpos : Pos} (ho : LE X c W o mo) (he : LE X c W e me)
    (hbase : attributeBase o "count" X.env (eval o X.env) = eval o X.env := by rfl)
    (hfew : ((backTo cpos (starEach [e] X.env)).all (fun x => !x.1) && (backToKw cpos (keywordEach [] X.env)).all (fun x => x.1.isSome)
      && decide ([e].length + ([] : List Keyword).length + (if ([] : List Keyword).isEmpty then 0 else 1) < 30)) = true := by rfl)
    (hline : (apos.endLine == cpos.line) = true := by rfl) (hs : starEach [e] X.env = (false, eval e X.env) :: starEach [] X.env := by rfl) : LE X c W (.Call (.Attribute o "count" apos) [e] [] cpos) (mCntT mo me) := by
  refine ⟨fun pins s σ H Q I ⟨l, S, rp, po⟩ => ?_⟩
  have h0 : liftE X.K c W mo σ H fun x H1 => ∃ p xs l1 S1 ds, x = .ref p ∧ SqN X.K H1 p xs ∧ SqN X.K l1.L p xs ∧ Rep X.K c l1 S1 σ H1 ∧ DtAll X.K l1 xs ds ∧ Po X.K c W l1 σ (Dt X.K) Q ((bnd me fun k => opt (dCntT (.tup ds) k)) S1) := by
    refine ⟨l, S, rp, Po.bind (R := Dt X.K) po fun a S1 v H1 l1 _ rp1 g1 q1 po1 => ?_⟩
    cases q1 with
    | @tup p vs ds h1 h2 => exact ⟨p, vs, l1, S1, ds, rfl, rp1.rt.lh.sqN h1, h1, rp1, h2, po1⟩
    | _ => exact po1.elim
  refine wpAny_Call_method_late hbase hfew hline rfl (thn (PE.run ho pins s σ H _ I h0) fun v s1 ⟨x, H1, I1, r1, p, xs, l1, S1, ds, ex, hn, hn1, rp1, hd, po1⟩ => ?_)
  subst ex
  obtain rfl : v = Value.ref p := r1
  obtain ⟨h1, h2⟩ := sqN_is I1 hn
  refine ⟨"tuple", "tuple.count", PySem.F.plainAttrs_tuple, PySem.F.slot_tuple_count, PySem.F.type_tuple_count, h1, h2, ?_⟩
  have hA : liftE X.K c W me σ H1 fun w H2 => rCntT X.K (.ref p) [w] H2 Q := by
    refine ⟨l1, S1, rp1, Po.bind (R := Dt X.K) po1 fun k S2 w H2 l2 _ rp2 g2 q2 po2 => ?_⟩
    obtain ⟨d, ed, po3⟩ := Po.opt po2
    cases k with
    | int i =>
      cases q2
      have ed : (intsD ds).map (fun ns => D.int (ns.count i : Nat)) = some d := ed
      cases en : intsD ds with
      | none =>
        rw [en] at ed
        cases ed
      | some ns =>
        rw [en] at ed
        cases ed
        have e1 := intsD_some en
        subst e1
        have e2 := hd.intsV
        subst e2
        exact ⟨p, ns, i, rfl, rfl, rp2.rt.lh.sqT (g2.1.sqT hn1.sqT), po3 _ H2 l2 rp2 (Gr.refl _) (.int _)⟩
    | _ => cases ed
  have hR := (pa_cons (X := X) he pa_nil hs).run cpos pins s1 σ H1 (fun ys H2 => rCntT X.K (.ref p) ys H2 Q) I1 hA
  rw [hs] at hR ⊢
  refine Calls.callWith_builtin rfl (Calls.evalArgs_plain ?_)
  exact thn hR fun us s2 ⟨vs, H2, I2, r2, q2⟩ => mt_tcount pins s2 σ H2 (.ref p) vs (.ref p) us Q I2 rfl r2 q2
end
end Lw

set_option Elab.async false
set_option linter.all false
/-! Lw: what mirrors do at a state: rules for simp. They look at a mirror only where it is applied. -/
namespace Lw
open PySem
section
variable {α β : Type} {σ : List (Option Sl)} {ds : Option DSt} {s : S}
@[simp] theorem q_bnd (m : M α) (k : α → M β) (s : S) : bnd m k s = match m s with
  | .ok a s' => k a s'
  | .er x s' => .er x s'
  | .no => .no := rfl
@[simp] theorem q_cl (m : M α) (s : S) : cl m s = match m s with
  | .ok a s' => .ok a s'
  | _ => .no := rfl
@[simp] theorem q_mV (i : Nat) : mV i ⟨σ, ds⟩ = match σ[i]? with
  | some (some (.d x)) => .ok x ⟨σ, ds⟩
  | _ => .no := rfl
@[simp] theorem q_rdS (i : Nat) : rdS i ⟨σ, ds⟩ = match σ[i]? with
  | some (some (.d x)) => .ok x ⟨σ, ds⟩
  | some (some (.l xs)) => .ok (.lst xs) ⟨σ, ds⟩
  | _ => .no := rfl
@[simp] theorem q_mZ (i : Nat) : mZ i ⟨σ, ds⟩ = match σ[i]? with
  | some (some (.l xs)) => .ok (.lst xs) ⟨σ.set i (some (.d (.lst xs))), ds⟩
  | _ => .no := rfl
@[simp] theorem q_putS (i : Nat) (x : Sl) : putS i x ⟨σ, ds⟩ = if i < σ.length then .ok () ⟨σ.set i (some x), ds⟩ else .no := rfl
@[simp] theorem q_evv (m : M D) (s : S) : (Opd.v m).ev s = m s := rfl
@[simp] theorem q_evn (i : Nat) : (Opd.n i).ev ⟨σ, ds⟩ = match σ[i]? with
  | some (some _) => .ok .non ⟨σ, ds⟩
  | _ => .no := rfl
@[simp] theorem q_rdv (m : M D) (d : D) (s : S) : (Opd.v m).rd d s = .ok d s := rfl
@[simp] theorem q_rdn (i : Nat) (d : D) (s : S) : (Opd.n i).rd d s = rdS i s := rfl
@[simp] theorem q_m1 (f : D → Option D) (o : Opd) (s : S) : m1 f o s = bnd o.ev (fun x => bnd (o.rd x) fun a => opt (f a)) s := rfl
@[simp] theorem q_m2 (f : D → D → Option D) (o p : Opd) (s : S) : m2 f o p s = bnd o.ev (fun x => bnd p.ev fun y => bnd (o.rd x) fun a => bnd (p.rd y) fun b => opt (f a b)) s := rfl
@[simp] theorem q_mCh (f g : D → D → Option D) (a b c : M D) (s : S) : mCh f g a b c s = bnd a (fun x => bnd b fun y => bnd (opt (f x y)) fun z => match z with
  | .bl true => bnd c fun w => opt (g y w)
  | .bl false => ret (.bl false)
  | _ => stuck) s := rfl
@[simp] theorem q_aNil (s : S) : aNil s = .ok [] s := rfl
@[simp] theorem q_aCons (m : M D) (r : M (List D)) (s : S) : aCons m r s = bnd m (fun x => bnd r fun xs => ret (x :: xs)) s := rfl
@[simp] theorem q_evs0 (s : S) : evs [] s = .ok [] s := rfl
@[simp] theorem q_evs (o : Opd) (os : List Opd) (s : S) : evs (o :: os) s = bnd o.ev (fun x => bnd (evs os) fun xs => ret (x :: xs)) s := rfl
@[simp] theorem q_rds0 (s : S) : rds [] [] s = .ok [] s := rfl
@[simp] theorem q_rds (o : Opd) (os : List Opd) (x : D) (xs : List D) (s : S) : rds (o :: os) (x :: xs) s = bnd (o.rd x) (fun a => bnd (rds os xs) fun as => ret (a :: as)) s := rfl
@[simp] theorem q_mBi (f : List D → Option D) (os : List Opd) (s : S) : mBi f os s = bnd (evs os) (fun xs => bnd (rds os xs) fun as => opt (f as)) s := rfl
@[simp] theorem q_mTup (m : M (List D)) (s : S) : mTup m s = bnd m (fun xs => ret (.tup xs)) s := rfl
@[simp] theorem q_mLst (m : M (List D)) (s : S) : mLst m s = bnd m (fun xs => ret (.lst xs)) s := rfl
@[simp] theorem q_call (f : Fn) (xs : List D) : call f xs ⟨σ, ds⟩ = match f xs ds with
  | .ok d ds => .ok d ⟨σ, ds⟩
  | .er x ds => .er x ⟨σ, ds⟩
  | .no => .no := rfl
@[simp] theorem q_mCall (f : Fn) (m : M (List D)) (s : S) : mCall f m s = bnd m (fun xs => call f xs) s := rfl
@[simp] theorem q_tB (m : M D) (s : S) : tB m s = bnd m (fun x => opt (asB x)) s := rfl
@[simp] theorem q_tTr (o : Opd) (s : S) : tTr o s = bnd o.ev (fun x => bnd (o.rd x) fun a => opt (truth a)) s := rfl
@[simp] theorem q_tNot (m : M Bool) (s : S) : tNot m s = bnd m (fun b => ret (!b)) s := rfl
@[simp] theorem q_tAnd (m n : M Bool) (s : S) : tAnd m n s = bnd m (fun b => if b then n else ret false) s := rfl
@[simp] theorem q_tOr (m n : M Bool) (s : S) : tOr m n s = bnd m (fun b => if b then ret true else n) s := rfl
@[simp] theorem q_mAnd (m n : M D) (s : S) : mAnd m n s = bnd m (fun x => bnd (opt (asB x)) fun b => if b then n else ret (.bl false)) s := rfl
@[simp] theorem q_mOr (m n : M D) (s : S) : mOr m n s = bnd m (fun x => bnd (opt (asB x)) fun b => if b then ret (.bl true) else n) s := rfl
@[simp] theorem q_mNot (m : M D) (s : S) : mNot m s = bnd m (fun x => bnd (opt (asB x)) fun b => ret (.bl (!b))) s := rfl
@[simp] theorem q_mIf (t : M Bool) (a b : M D) (s : S) : mIf t a b s = bnd t (fun z => if z then a else b) s := rfl
@[simp] theorem q_sNx (s : S) : sNx s = .ok .nx s := rfl
@[simp] theorem q_sDrop (m : M D) (s : S) : sDrop m s = bnd m (fun _ => ret .nx) s := rfl
@[simp] theorem q_sRet (m : M D) (s : S) : sRet m s = bnd m (fun d => ret (.rt d)) s := rfl
@[simp] theorem q_sRetN (s : S) : sRetN s = .ok (.rt .non) s := rfl
@[simp] theorem q_sBrk (s : S) : sBrk s = .ok .bk s := rfl
@[simp] theorem q_sCnt (s : S) : sCnt s = .ok .ct s := rfl
@[simp] theorem q_sIf (t : M Bool) (a b : M Fl) (s : S) : sIf t a b s = bnd t (fun z => if z then a else b) s := rfl
@[simp] theorem q_ite (b : Bool) (m n : M α) (s : S) : (if b then m else n) s = if b then m s else n s := by cases b <;> rfl
@[simp] theorem q_gV (i : Nat) (d : D) (s : S) : gV i d s = putS i (.d d) s := rfl
@[simp] theorem q_gAll0 (s : S) : gAll [] [] s = .ok () s := rfl
@[simp] theorem q_gAll (g : Tg) (gs : List Tg) (d : D) (ds : List D) (s : S) : gAll (g :: gs) (d :: ds) s = bnd (g d) (fun _ => gAll gs ds) s := rfl
@[simp] theorem q_gTp (gs : List Tg) (xs : List D) (s : S) : gT gs (.pr xs) s = gAll gs xs s := rfl
@[simp] theorem q_gT (gs : List Tg) (xs : List D) (s : S) : gT gs (.tup xs) s = gAll gs xs s := rfl
@[simp] theorem q_sAsg (m : M D) (g : Tg) (s : S) : sAsg m g s = bnd m (fun d => bnd (cl (g d)) fun _ => ret .nx) s := rfl
@[simp] theorem q_sOwn (i : Nat) (m : M (List D)) (s : S) : sOwn i m s = bnd m (fun xs => bnd (putS i (.l xs)) fun _ => ret .nx) s := rfl
@[simp] theorem q_apS (i : Nat) (d : D) : apS i d ⟨σ, ds⟩ = match σ[i]? with
  | some (some (.l xs)) => if xs.length < 16777216 then .ok .nx ⟨σ.set i (some (.l (xs ++ [d]))), ds⟩ else .no
  | _ => .no := rfl
@[simp] theorem q_sApp (i : Nat) (m : M D) : sApp i m ⟨σ, ds⟩ = match σ[i]? with
  | some (some (.l _)) => bnd m (apS i) ⟨σ, ds⟩
  | _ => .no := rfl
@[simp] theorem q_ixS (i : Nat) (d : D) (k : Int) : ixS i d (.int k) ⟨σ, ds⟩ = match σ[i]? with
  | some (some (.l xs)) => (match ixOf xs.length k with
    | some j => .ok () ⟨σ.set i (some (.l (xs.set j d))), ds⟩
    | none => .no)
  | _ => .no := by
  cases h : σ[i]? with
  | none => simp [ixS, h]
  | some x => cases x with
    | none => simp [ixS, h]
    | some y => cases y <;> (simp [ixS, h]; try rfl)
@[simp] theorem q_gIx (i : Nat) (k : M D) (d : D) : gIx i k d ⟨σ, ds⟩ = match σ[i]? with
  | some (some (.l _)) => bnd k (ixS i d) ⟨σ, ds⟩
  | _ => .no := rfl
@[simp] theorem q_raise (x : D) (s : S) : (raise x : M α) s = .er x s := rfl
@[simp] theorem q_sRaise (m : M D) (s : S) : sRaise m s = bnd m (fun x => raise x) s := rfl
@[simp] theorem q_mExc (c : String) (m : M (List D)) (s : S) : mExc c m s = bnd m (fun ds => ret (.exc c ds)) s := rfl
@[simp] theorem q_sFor (it : M (List D)) (g : Tg) (b : M Fl) (s : S) : sFor it g b s = bnd it (fun xs => forL g b xs) s := rfl
@[simp] theorem q_mF (m : M (List D)) (s : S) : mF m s = bnd m (fun xs => ret (.lst xs)) s := rfl
@[simp] theorem q_mLc (it : M (List D)) (g : Tg) (t : M Bool) (e : M D) (vs : List Nat) (s : S) : mLc it g t e vs s = bnd it (fun xs => lcA g t e vs xs) s := rfl
@[simp] theorem q_lcA (g : Tg) (t : M Bool) (e : M D) (vs : List Nat) (xs : List D) : lcA g t e vs xs ⟨σ, ds⟩ = if noOwn vs σ then
    match lcL g t e vs xs ⟨wipeS vs σ, ds⟩ with
    | .ok ys s' => .ok ys ⟨unwipe σ vs s'.σ, s'.ds⟩
    | _ => .no
  else .no := rfl
@[simp] theorem q_lc1 (g : Tg) (t : M Bool) (e : M D) (vs : List Nat) (x : D) (s : S) : lc1 g t e vs x s = match bnd (cl (g x)) (fun _ => bnd t fun z => if z then bnd e fun y => ret [y] else ret []) s with
  | .ok a s' => .ok a ⟨wipeS vs s'.σ, s'.ds⟩
  | _ => .no := rfl
@[simp] theorem q_tTrue (s : S) : tTrue s = .ok true s := rfl
@[simp] theorem q_mRg1 (m : M D) (s : S) : mRg1 m s = bnd m (fun a => opt (iRg1 a)) s := rfl
@[simp] theorem q_mRg2 (m n : M D) (s : S) : mRg2 m n s = bnd m (fun a => bnd n fun b => opt (iRg2 a b)) s := rfl
@[simp] theorem q_mPart0 (s : S) : mPart none s = .ok none s := rfl
@[simp] theorem q_mCut (o : Opd) (lo hi : Option (M D)) (s : S) : mCut o lo hi s = bnd o.ev (fun x => bnd (mPart lo) fun i => bnd (mPart hi) fun j => bnd (o.rd x) fun a => opt (dCut i j a)) s := rfl
@[simp] theorem q_mListF (o : Opd) (s : S) : mListF o s = bnd o.ev (fun x => bnd (o.rd x) fun d => opt (seqL d)) s := rfl
/-! values -/
@[simp] theorem q_asB (b : Bool) : asB (.bl b) = some b := rfl
@[simp] theorem q_addI (a b : Int) : dAdd (.int a) (.int b) = some (.int (a + b)) := rfl
@[simp] theorem q_addL (a b : List D) : dAdd (.lst a) (.lst b) = if a.length + b.length ≤ line then some (.lst (a ++ b)) else none := rfl
@[simp] theorem q_addT (a b : List D) : dAdd (.tup a) (.tup b) = if a.length + b.length ≤ line then some (.tup (a ++ b)) else none := rfl
@[simp] theorem q_sub (a b : Int) : dSub (.int a) (.int b) = some (.int (a - b)) := rfl
@[simp] theorem q_lt (a b : Int) : dLt (.int a) (.int b) = some (.bl (decide (a < b))) := rfl
@[simp] theorem q_le (a b : Int) : dLe (.int a) (.int b) = some (.bl (decide (a ≤ b))) := rfl
@[simp] theorem q_gt (a b : Int) : dGt (.int a) (.int b) = some (.bl (decide (b < a))) := rfl
@[simp] theorem q_ge (a b : Int) : dGe (.int a) (.int b) = some (.bl (decide (b ≤ a))) := rfl
@[simp] theorem q_ng (a : Int) : dNg (.int a) = some (.int (-a)) := rfl
@[simp] theorem q_isN (a : D) : dIsN a .non = some (.bl (isNon a)) := rfl
@[simp] theorem q_ntN (a : D) : dNtN a .non = some (.bl (!isNon a)) := rfl
@[simp] theorem q_lenL (xs : List D) : dLen [.lst xs] = some (.int xs.length) := rfl
@[simp] theorem q_lenT (xs : List D) : dLen [.tup xs] = some (.int xs.length) := rfl
@[simp] theorem q_ixL (xs : List D) (i : Int) : dIx (.lst xs) (.int i) = L2.atI xs i := rfl
@[simp] theorem q_ixT (xs : List D) (i : Int) : dIx (.tup xs) (.int i) = L2.atI xs i := rfl
@[simp] theorem q_cutL (lo hi : Option Int) (xs : List D) : dCut lo hi (.lst xs) = some (.lst (cut xs lo hi)) := rfl
@[simp] theorem q_cutT (lo hi : Option Int) (xs : List D) : dCut lo hi (.tup xs) = some (.tup (cut xs lo hi)) := rfl
@[simp] theorem q_listL (xs : List D) : dList [.lst xs] = some (.lst xs) := rfl
@[simp] theorem q_listT (xs : List D) : dList [.tup xs] = some (.lst xs) := rfl
@[simp] theorem q_seqL (xs : List D) : seqL (.lst xs) = some xs := rfl
@[simp] theorem q_seqT (xs : List D) : seqL (.tup xs) = some xs := rfl
@[simp] theorem q_tupL (xs : List D) : dTuple [.lst xs] = some (.tup xs) := rfl
@[simp] theorem q_tupT (xs : List D) : dTuple [.tup xs] = some (.tup xs) := rfl
@[simp] theorem q_intI (i : Int) : dInt [.int i] = some (.int i) := rfl
@[simp] theorem q_itL (xs : List D) : items (.lst xs) = some xs := rfl
@[simp] theorem q_itT (xs : List D) : items (.tup xs) = some xs := rfl
@[simp] theorem q_enL (xs : List D) : iEn (.lst xs) = some (enumF 0 xs) := rfl
@[simp] theorem q_enT (xs : List D) : iEn (.tup xs) = some (enumF 0 xs) := rfl
@[simp] theorem q_start (n : Nat) (ds : List D) : start n ds = ds.map (fun d => some (.d d)) ++ List.replicate (n - ds.length) none := rfl
end
@[simp] theorem q_mPart (m : M D) (s : S) : mPart (some m) s = bnd m (fun d => match d with
  | .int i => ret (some i)
  | _ => stuck) s := rfl
@[simp] theorem q_mAddF (o p : Opd) (s : S) : mAddF o p s = bnd o.ev (fun x => bnd p.ev fun y => bnd (o.rd x) fun a => bnd (p.rd y) fun b => opt (match a, b with
  | .lst xs, .lst ys => if xs.length + ys.length ≤ line then some (xs ++ ys) else none
  | _, _ => none)) s := rfl
end Lw

set_option Elab.async false
set_option linter.all false
set_option maxRecDepth 100000
set_option maxHeartbeats 4000000
/-! Lw: plain lemmas for the mathematics of a law. -/
namespace Lw
open PySem
def isI : D → Bool
  | .int _ => true
  | _ => false
def inR (a b : Int) : D → Bool
  | .int i => decide (a ≤ i) && decide (i ≤ b)
  | _ => false
def isSq : D → Bool
  | .lst _ | .tup _ | .scr _ => true
  | _ => false
def isLT (d : D) (xs : List D) : Prop := d = .lst xs ∨ d = .tup xs
/-! ### values -/
@[simp] theorem q_eqI (a b : Int) : dEq (.int a) (.int b) = some (.bl (decide (a = b))) := by
  unfold dEq
  simp [plain, toP, SeqAt.shaped, PyData.canLay0, PyData.depth, PyData.eqv]
  by_cases h : a = b <;> simp [h]
@[simp] theorem q_neI (a b : Int) : dNe (.int a) (.int b) = some (.bl (!decide (a = b))) := by
  unfold dNe
  simp [plain, toP, SeqAt.shaped, PyData.canLay0, PyData.depth, PyData.eqv]
  by_cases h : a = b <;> simp [h]
theorem ints_canLay : ∀ cs : List Int, PyData.canLayAll0 (toPs (cs.map .int)) = true
  | [] => by
    unfold List.map toPs PyData.canLayAll0
    rfl
  | c :: cs => by
    have := ints_canLay cs
    simp [toPs, PyData.canLayAll0, toP, PyData.canLay0, this]
theorem ints_depth : ∀ cs : List Int, PyData.depthAll (toPs (cs.map .int)) = 0
  | [] => by
    unfold List.map toPs PyData.depthAll
    rfl
  | c :: cs => by
    have := ints_depth cs
    simp [toPs, PyData.depthAll, toP, PyData.depth, this]
theorem ints_eqv : ∀ cs ds : List Int, PyData.eqvAll (toPs (cs.map .int)) (toPs (ds.map .int)) = decide (cs = ds)
  | [], [] => by simp [toPs, PyData.eqvAll]
  | [], d :: ds => by simp [toPs, PyData.eqvAll]
  | c :: cs, [] => by simp [toPs, PyData.eqvAll]
  | c :: cs, d :: ds => by
    have := ints_eqv cs ds
    simp only [List.map_cons, toPs, PyData.eqvAll, toP, PyData.eqv, this]
    by_cases h1 : c = d <;> by_cases h2 : cs = ds <;> simp [h1, h2]
theorem ints_plain : ∀ cs : List Int, plainAll (cs.map .int) = true
  | [] => rfl
  | c :: cs => by
    have := ints_plain cs
    simp [plainAll, plain, this]
theorem eq_tupI (cs ds : List Int) : dEq (.tup (cs.map .int)) (.tup (ds.map .int)) = some (.bl (decide (cs = ds))) := by
  unfold dEq
  simp [plain, ints_plain, SeqAt.shaped, toP, PyData.canLay0, ints_canLay, PyData.depth, ints_depth, PyData.eqv, ints_eqv]
theorem ne_tupI (cs ds : List Int) : dNe (.tup (cs.map .int)) (.tup (ds.map .int)) = some (.bl (!decide (cs = ds))) := by
  unfold dNe
  simp [plain, ints_plain, SeqAt.shaped, toP, PyData.canLay0, ints_canLay, PyData.depth, ints_depth, PyData.eqv, ints_eqv]
theorem eq_lstI (cs ds : List Int) : dEq (.lst (cs.map .int)) (.lst (ds.map .int)) = some (.bl (decide (cs = ds))) := by
  unfold dEq
  simp [plain, ints_plain, SeqAt.shaped, toP, PyData.canLay0, ints_canLay, PyData.depth, ints_depth, PyData.eqv, ints_eqv]
theorem ne_lstI (cs ds : List Int) : dNe (.lst (cs.map .int)) (.lst (ds.map .int)) = some (.bl (!decide (cs = ds))) := by
  unfold dNe
  simp [plain, ints_plain, SeqAt.shaped, toP, PyData.canLay0, ints_canLay, PyData.depth, ints_depth, PyData.eqv, ints_eqv]
theorem ne_nilI (cs : List Int) : dNe (.lst (cs.map .int)) (.lst []) = some (.bl (!decide (cs = []))) := ne_lstI cs []
theorem shw_tupI {cs : List Int} {w : Nat} (h : ∀ x ∈ cs, -100000 ≤ x ∧ x ≤ 100000) (hw : cs.length * 203 + 3 ≤ w) : Shw 1 w (.tup (cs.map .int)) :=
  Shw.tup (v := 201) (fun x hx => by
    obtain ⟨i, hi, rfl⟩ := List.mem_map.mp hx
    have := h i hi
    exact Shw.i64 (by omega) (by omega) (by decide)) (by simpa using hw)
theorem shw_lstI {cs : List Int} {w : Nat} (h : ∀ x ∈ cs, -100000 ≤ x ∧ x ≤ 100000) (hw : cs.length * 203 + 3 ≤ w) : Shw 1 w (.lst (cs.map .int)) :=
  Shw.lst (v := 201) (fun x hx => by
    obtain ⟨i, hi, rfl⟩ := List.mem_map.mp hx
    have := h i hi
    exact Shw.i64 (by omega) (by omega) (by decide)) (by simp; omega)
/-- all items of a list of values -/
theorem shw_all {dp w : Nat} {xs : List D} (h : ∀ x ∈ xs, Shw dp w x) : ∀ x ∈ xs, Shw dp w x := h
theorem cut_take {α : Type} (xs : List α) {k : Int} (h : 0 ≤ k) : cut xs none (some k) = xs.take k.toNat := by
  have e : HT.sIx xs.length xs.length (some k) = min k.toNat xs.length := if_neg (by omega)
  unfold cut
  rw [e, HT.sIx_none, List.drop_zero, Nat.sub_zero]
  by_cases hk : k.toNat ≤ xs.length
  · rw [Nat.min_eq_left hk]
  · rw [Nat.min_eq_right (by omega), List.take_of_length_le (Nat.le_refl _), List.take_of_length_le (by omega)]
theorem cut_drop {α : Type} (xs : List α) {k : Int} (h : 0 ≤ k) : cut xs (some k) none = xs.drop k.toNat := by
  have e : HT.sIx xs.length 0 (some k) = min k.toNat xs.length := if_neg (by omega)
  unfold cut
  rw [e, HT.sIx_none]
  by_cases hk : k.toNat ≤ xs.length
  · rw [Nat.min_eq_left hk, List.take_of_length_le (by simp)]
  · rw [Nat.min_eq_right (by omega), List.drop_eq_nil_of_le (Nat.le_refl _), List.drop_eq_nil_of_le (by omega)]
    simp
theorem at_last {α : Type} (xs : List α) (x : α) : L2.atI (xs ++ [x]) (-1) = some x := by
  unfold L2.atI L2.ixN
  rw [if_neg (by decide), if_pos (by simp; omega), Option.bind_some]
  have : ((-1 : Int) + ((xs ++ [x]).length : Int)).toNat = xs.length := by simp; omega
  rw [this]
  simp
theorem at_getD {cs : List Int} {i : Int} (h1 : 0 ≤ i) (h2 : i < cs.length) : L2.atI (cs.map D.int) i = some (.int (cs.getD i.toNat 0)) := by
  refine atI_map (at_nat h1 h2 ?_)
  have : i.toNat < cs.length := by omega
  simp [this]
theorem atI_all {P : D → Prop} {xs : List D} {v : Int} (h1 : 0 ≤ v) (h2 : v < xs.length) (h : ∀ x ∈ xs, P x) : ∃ d, L2.atI xs v = some d ∧ P d := by
  obtain ⟨x, hx, hm⟩ := get_lt (xs := xs) (i := v.toNat) (by omega)
  exact ⟨x, at_nat h1 h2 hx, h x hm⟩
theorem rg1_ok {v : Int} (h0 : 0 ≤ v) (h1 : v ≤ 100000) : iRg1 (.int v) = some (rg 0 v) := by
  have h : rgOk 0 v = true := by
    unfold rgOk line
    simp only [Bool.and_eq_true, decide_eq_true_eq]
    omega
  unfold iRg1
  dsimp only
  rw [if_pos h]
theorem rg2_ok {u v : Int} (h0 : -100000 ≤ u) (h1 : u ≤ 100000) (h2 : -100000 ≤ v) (h3 : v ≤ 100000) : iRg2 (.int u) (.int v) = some (rg u v) := by
  have h : rgOk u v = true := by
    unfold rgOk line
    simp only [Bool.and_eq_true, decide_eq_true_eq]
    omega
  unfold iRg2
  dsimp only
  rw [if_pos h]
theorem rep_len {α : Type} (k : Nat) (xs : List α) : (rep k xs).length = k * xs.length := by simp [rep]
theorem rep_mem {α : Type} {k : Nat} {xs : List α} {x : α} (h : x ∈ rep k xs) : x ∈ xs := by
  unfold rep at h
  obtain ⟨ys, h1, h2⟩ := List.mem_flatten.mp h
  rw [List.eq_of_mem_replicate h1] at h2
  exact h2
theorem rep_map {α β : Type} (f : α → β) (k : Nat) (xs : List α) : (rep k xs).map f = rep k (xs.map f) := by
  unfold rep
  rw [List.map_flatten, List.map_replicate]
/-! ### loops -/
theorem forL_cnt {g : Tg} {b : M Fl} {P : Nat → S → Prop} : ∀ (xs : List D) (k : Nat) (s : S), P k s → (∀ x ∈ xs, ∀ j s, k ≤ j → j < k + xs.length → P j s → ∃ s', bnd (cl (g x)) (fun _ => b) s = .ok .nx s' ∧ P (j + 1) s') → ∃ s', forL g b xs s = .ok .nx s' ∧ P (k + xs.length) s'
  | [], k, s, h, _ => ⟨s, rfl, h⟩
  | x :: xs, k, s, h, f => by
    obtain ⟨s1, e1, h1⟩ := f x (List.mem_cons_self ..) k s (Nat.le_refl _) (by simp) h
    obtain ⟨s2, e2, h2⟩ := forL_cnt xs (k + 1) s1 h1 fun y hy j s h3 h4 => f y (List.mem_cons_of_mem _ hy) j s (by omega) (by simp; omega)
    exact ⟨s2, by rw [forL_nx e1]; exact e2, by rw [List.length_cons, Nat.add_comm xs.length 1, ← Nat.add_assoc]; exact h2⟩
theorem lcL_draws {g : Tg} {t : M Bool} {e : M D} {vs : List Nat} {σ : List (Option Sl)} {P : D → Prop} {c B : Nat} (h : ∀ x, ∀ st : DSt, st.spot ≤ B → ∃ y st', lc1 g t e vs x ⟨σ, some st⟩ = .ok [y] ⟨σ, some st'⟩ ∧ P y ∧ st'.spot ≤ st.spot + c) :
    ∀ (xs : List D) (st : DSt), st.spot + c * xs.length ≤ B → ∃ ys st', lcL g t e vs xs ⟨σ, some st⟩ = .ok ys ⟨σ, some st'⟩ ∧ ys.length = xs.length ∧ (∀ y ∈ ys, P y) ∧ st'.spot ≤ st.spot + c * xs.length
  | [], st, _ => ⟨[], st, rfl, rfl, ⟨fun _ h => absurd h (List.not_mem_nil), Nat.le_add_right _ _⟩⟩
  | x :: xs, st, hb => by
    have e0 : c * (x :: xs).length = c * xs.length + c := by rw [List.length_cons, Nat.mul_succ]
    obtain ⟨y, st1, e1, p1, s1⟩ := h x st (by omega)
    obtain ⟨ys, st2, e2, l2, p2, s2⟩ := lcL_draws h xs st1 (by omega)
    refine ⟨y :: ys, st2, ?_, by simp [l2], fun z hz => ?_, by omega⟩
    · show bnd (lc1 g t e vs x) _ _ = _
      rw [bnd_ok e1, bnd_ok e2]
      rfl
    · rcases List.mem_cons.mp hz with rfl | hz
      · exact p1
      · exact p2 z hz
theorem ints_of {P : Int → Prop} : ∀ {ys : List D}, (∀ y ∈ ys, ∃ i, y = .int i ∧ P i) → ∃ r : List Int, ys = r.map .int ∧ ∀ i ∈ r, P i
  | [], _ => ⟨[], rfl, fun _ h => absurd h (List.not_mem_nil)⟩
  | y :: ys, h => by
    obtain ⟨i, rfl, hi⟩ := h y (List.mem_cons_self ..)
    obtain ⟨r, e, hr⟩ := ints_of fun z hz => h z (List.mem_cons_of_mem _ hz)
    refine ⟨i :: r, by rw [e]; rfl, fun j hj => ?_⟩
    rcases List.mem_cons.mp hj with rfl | hj
    · exact hi
    · exact hr j hj
theorem ints_ty {r : List Int} : ∀ x ∈ r.map D.int, tyD x ≠ none := fun x hx => by
  obtain ⟨i, _, rfl⟩ := List.mem_map.mp hx
  exact fun z => nomatch z
theorem ints_inR {a b : Int} {r : List Int} (h : ∀ i ∈ r, a ≤ i ∧ i ≤ b) : ∀ x ∈ r.map D.int, inR a b x = true := fun x hx => by
  obtain ⟨i, hi, rfl⟩ := List.mem_map.mp hx
  have := h i hi
  simp [inR, this]
/-- a comprehension over a list of whole numbers that tells whole numbers -/
theorem lcL_ints {g : Tg} {e : M D} {vs : List Nat} {f : Int → Int} {s : S} (r : List Int) (h : ∀ i ∈ r, lc1 g tTrue e vs (.int i) s = .ok [.int (f i)] s) : lcL g tTrue e vs (r.map .int) s = .ok ((r.map f).map .int) s := by
  rw [lcL_map (f := fun d => match d with | .int i => .int (f i) | _ => .non) (r.map .int) fun x hx => by
    obtain ⟨i, hi, rfl⟩ := List.mem_map.mp hx
    exact h i hi, List.map_map, List.map_map]
  rfl
end Lw

set_option Elab.async false
set_option linter.all false
set_option maxRecDepth 100000
set_option maxHeartbeats 4000000
/-! Lw: defs that hand back a new list, which is the caller's own. -/
namespace Lw
open PySem PySem.Spec PyProof.Rows L2

/-- the promise of a def that hands back a new list -/
def spF (K : PySem.W.Frag) (T : List (Addr × Str)) (n : Nat) (fm : Fn) : Sp := fun vs H Q E => vs.length = n ∧ ∃ l ds xs, Ret K T l H l H ds ∧ DtAll K l vs xs ∧ match fm xs ds with
  | .ok (.lst ys) ds' => ∀ p ws H' l', Ret K T l H l' H' ds' → H' p = some (.lst ws) → l'.L p = none → H p = none → p ∉ mtL l' → DtAll K l' ws ys → Q (.ref p) H'
  | .ok _ _ => False
  | .er x ds' => ∀ cls dd H' l', Ret K T l H l' H' ds' → Fly K l' cls dd x → E cls dd H'
  | .no => False
def FnGF (P : Program) (w : World) (K : PySem.W.Frag) (mg : Str → Option Value) (base : Heap) (T : List (Addr × Str)) (k : Nat) (f : Addr) (n : Nat) (fm : Fn) : Prop :=
  ∀ (A : Around) (outer : List Env) (s : Shared) (H : Hp) (us : List Value) (vs : List V) (Q : VK) (E : XK), Room k A → A.guards = some [] → Env0 P w K mg base A outer s H → Vals vs us → spF K T n fm vs H Q E →
    codeAny (model P w) A (.call (.ref f) ⟨us, []⟩) (CR (L2.CX P w) outer P w H s Q E) s
structure FnMF (P : Program) (w : World) (K : PySem.W.Frag) (mg : Str → Option Value) (base : Heap) (T : List (Addr × Str)) (k : Nat) (x : Str) (n : Nat) (fm : Fn) : Prop where
  ex : ∃ f, mg x = some (.ref f) ∧ PySem.W.keepIn K (.ref f) = true ∧ FnGF P w K mg base T k f n fm
theorem FnGF.mono {P : Program} {w : World} {K : PySem.W.Frag} {mg : Str → Option Value} {base : Heap} {T : List (Addr × Str)} {j k : Nat} {f : Addr} {n : Nat} {fm : Fn} (F : FnGF P w K mg base T j f n fm) (h : j ≤ k) : FnGF P w K mg base T k f n fm :=
  fun A outer s H us vs Q E hr => F A outer s H us vs Q E (hr.mono h)
theorem FnMF.cast {P : Program} {w : World} {K : PySem.W.Frag} {mg : Str → Option Value} {base : Heap} {T T' : List (Addr × Str)} {k : Nat} {x : Str} {n : Nat} {fm : Fn} (F : FnMF P w K mg base T k x n fm) (e : T' = T) : FnMF P w K mg base T' k x n fm := by
  subst e
  exact F
/-- a call whose list is the caller's own -/
def mCallF (fm : Fn) (m : M (List D)) : M (List D) := bnd (mCall fm m) fun d => match d with
  | .lst xs => ret xs
  | _ => stuck
theorem bnd_bnd' {α β γ : Type} (m : M α) (k : α → M β) (h : β → M γ) (s : S) : bnd (bnd m k) h s = bnd m (fun x => bnd (k x) h) s := by
  unfold bnd
  cases m s <;> rfl
section
variable {X : Cx} {c : Pk} {W : WX}
theorem run_gF {k n : Nat} {f : Addr} {fm : Fn} {pins : List (Addr × Obj)} {σ : L2.St} {H : Hp} {s : Shared} {Q : VK} {us : List Value} {vs : List V} (F : FnGF X.prog X.w X.K X.mg X.base c.T k f n fm) (hr : Room k X.A) (gd : X.A.guards = some []) (tk : Takes X W)
    (I : Inv X pins σ H s) (r : Vals vs us) (h : spF X.K c.T n fm vs H Q (WE W σ)) : wpAny (model X.prog X.w) X.A (PySem.call (.ref f) us) (EP X pins σ Q) X.xe s := by
  refine wpAny_call (codeAny_mono (F X.A X.stack s H us vs Q (WE W σ) hr gd I.env0 r h) fun r s' hq => ?_)
  cases r with
  | error e => exact passAt tk σ pins H s e s' I hq
  | ok fl =>
    cases fl with
    | ret u => exact I.after hq
    | next => exact hq.elim
    | brk => exact hq.elim
    | cont => exact hq.elim
theorem callF_imp {n : Nat} {fm : Fn} {m : M (List D)} {σ : L2.St} {H : Hp} {Q : VK} (h : liftF X.K c W (mCallF fm m) σ H Q) : tCallS (spF X.K c.T n fm) (WE W) (liftA X.K c W n m) σ H Q := by
  obtain ⟨l, S, rp, po⟩ := h
  refine ⟨l, S, rp, ?_⟩
  have e0 : mCallF fm m S = bnd m (fun xs => bnd (call fm xs) fun d => match d with | D.lst xs => ret xs | _ => stuck) S := by
    unfold mCallF mCall
    rw [bnd_bnd']
  rw [e0] at po
  cases e : m S with
  | no =>
    rw [bnd_no e] at po
    exact po
  | er x S1 =>
    rw [bnd_er e] at po
    exact po
  | ok xs S1 =>
    rw [bnd_ok e] at po
    intro vs H1 l1 rp1 g1 q1
    refine ⟨q1.1.length.trans q1.2, l1, S1.ds, xs, rp1.rt.self, q1.1, ?_⟩
    cases e2 : fm xs S1.ds with
    | no =>
      have e3 : call fm xs S1 = .no := by unfold call; rw [e2]
      rw [bnd_no e3] at po
      exact po
    | er x ds' =>
      have e3 : call fm xs S1 = .er x { S1 with ds := ds' } := by unfold call; rw [e2]
      rw [bnd_er e3] at po
      intro cls dd H' l' rt fl
      exact po cls dd H' l' (rp1.on rt) (g1.trans rt.gr) fl
    | ok d ds' =>
      have e3 : call fm xs S1 = .ok d { S1 with ds := ds' } := by unfold call; rw [e2]
      rw [bnd_ok e3] at po
      cases d with
      | lst ys =>
        intro p ws H' l' rt hp hl hn hm dt
        refine po p ws H' l' (rp1.on rt) (g1.trans rt.gr) hp ⟨hl, rp1.rt.fd p hn, hm, fun i xs e4 z => ?_⟩ dt
        obtain ⟨a, us, h1, h2, _⟩ := rp1.so i xs e4
        rw [z] at h1
        injection h1 with h1
        injection h1 with h1
        injection h1 with h1
        rw [← h1, hn] at h2
        cases h2
      | _ => exact po.elim
theorem lf_call {k n : Nat} {x : Str} {fm : Fn} {e : Expr} {es : List Expr} {m : M (List D)} {p pos : Pos} (F : FnMF X.prog X.w X.K X.mg X.base c.T k x n fm) (hr : Room k X.A) (gd : X.A.guards = some []) (tk : Takes X W) (ha : LA X c W (e :: es) m) (hn : (e :: es).length = n := by rfl) (hg : Gl X x := by rfl)
    (hdb : (x == ("__debug__" : Str)) = false := by decide) (he : starEach (e :: es) X.env = (false, eval e X.env) :: starEach es X.env := by rfl) (hpl : (backTo pos (starEach es X.env)).any (·.1) = false := by rfl) : LF X c W (.Call (.Name x p) (e :: es) [] pos) (mCallF fm m) := by
  subst hn
  obtain ⟨f, hm, hk, F⟩ := F.ex
  refine ⟨fun pins s σ H Q I h => ?_⟩
  refine wpAny_Call_Name_kw (ld_glob I hg hm ?_ hdb)
  refine PySem.W.callWith_K (h₀ := X.base) I.ok.mod.kin hk (thn (PA.run ha pos pins s σ H _ I (callF_imp (n := (e :: es).length) h)) fun us s1 ⟨vs, H1, I1, r, q⟩ => ⟨I1.kIn, ?_⟩) he hpl
  exact run_gF F hr gd tk I1 r q
end
section
variable {P : Program} {w : World} {K : PySem.W.Frag} {mg : Str → Option Value} {base : Heap} {T : List (Addr × Str)}
/-- a def whose body returns a new list -/
theorem okF {x qual : Str} {params : Arguments} {e : Expr} {pos : Pos} {scope : Scope} {f : Addr} {fd : FuncData} {N ps : List Str} {k : Nat} {m : M (List D)} (F : FunD K x qual params [.Return (some e) pos] scope [] [] f fd) (Sc : FnScope N ps scope)
    (hbd : ∀ (kV doc pm : Value) (an : Option Addr) (cdv ct : Value) (us : List Value), us.length = ps.length → bindArgs (PySem.W.fnOf x qual params [.Return (some e) pos] scope .none kV doc pm an cdv ct) ⟨us, []⟩ = pure (ps.zip us))
    (hb : ∀ (cdv : Value) (A : Around) (outer : List Env) (s : Shared) (H : Hp) (E : XK) (c : Pk), c.T = T → A.guards = some [] → Room k (A.deeper (envOfC qual scope s.heap.objs.size f cdv)) →
      LF (cxOf (L2.CX P w) P w K mg base N qual scope f cdv A outer s H E) c (fun cls d _ H => E cls d H) e m) : FnGF P w K mg base T (k + 1) f ps.length (fnOf N.length ps.length (sRet (mF m))) := by
  intro A outer s H us vs Q E hr gd e0 rv h
  have hl : vs.length = ps.length := h.1
  have hb2 := F.bindsA (ps := ps) hbd s us (by rw [← rv.length]; exact hl)
  obtain ⟨oc, od, dV, kV, doc, pm, an, cdv, ct, osl, rfl, lk, hcd, _, _⟩ := F.ex
  refine LamX.run_ofS (N := N) (ps := ps) lk hcd Sc hr e0 hb2 rv hl fun hr' => ?_
  obtain ⟨_, l, ds, xs, rt, da, post⟩ := h
  refine ⟨_, pss_one (ps_ret (hb cdv A outer s H E ⟨T, l, H, none⟩ rfl gd hr')), ?_⟩
  have hx : xs.length = ps.length := da.length.symm.trans hl
  refine ⟨l, ⟨Lw.start N.length xs, ds⟩, start_rep rt da, ?_⟩
  unfold fnOf at post
  rw [if_pos hx] at post
  cases e1 : m ⟨Lw.start N.length xs, ds⟩ with
  | no =>
    have e2 : sRet (mF m) ⟨Lw.start N.length xs, ds⟩ = .no := by unfold sRet mF bnd; rw [e1]
    rw [e2] at post
    exact post
  | er y S' =>
    have e2 : sRet (mF m) ⟨Lw.start N.length xs, ds⟩ = .er y S' := by unfold sRet mF bnd; rw [e1]
    rw [e2] at post
    intro cls dd H' l' rp g f
    exact post cls dd H' l' rp.rt f
  | ok ys S' =>
    have e2 : sRet (mF m) ⟨Lw.start N.length xs, ds⟩ = .ok (.rt (.lst ys)) S' := by unfold sRet mF bnd ret; rw [e1]
    rw [e2] at post
    intro p ws H' l' rp g hp ap dt
    exact post p ws H' l' rp.rt hp ap.nl ap.h ap.w dt
end
end Lw

set_option Elab.async false
set_option linter.all false
set_option maxRecDepth 100000
set_option maxHeartbeats 4000000
/-! Lw: lists that may be written are lent: an expression that only reads them sees what they hold; what it tells has no list in it. -/
namespace Lw
open PySem PySem.Spec PyProof.Rows L2
mutual
/-- a value with its cells replaced -/
def snp (r : Nat → Option D) : D → Option D
  | .cel k => r k
  | .lst xs => (snps r xs).map .lst
  | .tup xs => (snps r xs).map .tup
  | .pr xs => (snps r xs).map .pr
  | .obj c xs => (snps r xs).map (.obj c)
  | .exc c xs => (snps r xs).map (.exc c)
  | .dct kvs => if kvs.isEmpty then some (.dct []) else none
  | .non => some .non
  | .bl b => some (.bl b)
  | .int i => some (.int i)
  | .str x => some (.str x)
  | .dm => some .dm
  | .scr ns => some (.scr ns)
def snps (r : Nat → Option D) : List D → Option (List D)
  | [] => some []
  | x :: xs => (snp r x).bind fun y => (snps r xs).map fun ys => y :: ys
end
def mapO {α β : Type} (f : α → Option β) : List α → Option (List β)
  | [] => some []
  | x :: xs => (f x).bind fun y => (mapO f xs).map fun ys => y :: ys
/-- what a value holds now: cells as lists, three deep -/
def snap (hp : List (List D)) : Nat → D → Option D
  | 0 => snp fun _ => none
  | f + 1 => snp fun k => (hp[k]?).bind fun xs => (mapO (snap hp f) xs).map .lst
mutual
/-- no list in it -/
def noL : D → Bool
  | .lst _ | .cel _ | .scr _ => false
  | .tup xs => noLs xs
  | .pr xs => noLs xs
  | .obj _ xs => noLs xs
  | .exc _ xs => noLs xs
  | .dct kvs => kvs.isEmpty
  | _ => true
def noLs : List D → Bool
  | [] => true
  | x :: xs => noL x && noLs xs
end
def hpOf : Option DSt → List (List D)
  | none => []
  | some st => st.hp
def wHp (hp : List (List D)) : Option DSt → Option DSt
  | none => none
  | some st => some ⟨st.cells, st.great, st.spot, st.hc, st.hg, hp⟩
def snSl (hp : List (List D)) : Option Sl → Option Sl
  | some (.d d) => (snap hp 3 d).map .d
  | some (.l xs) => (mapO (snap hp 3) xs).map fun ys => .d (.lst ys)
  | some (.f k) => some (.f k)
  | none => none
/-- lists that may be written are lent -/
def lentS (s : S) : S := ⟨s.σ.map (snSl (hpOf s.ds)), wHp [] s.ds⟩
def mLend (m : M D) : M D := fun s => match m (lentS s) with
  | .ok d s' => if noL d = true then .ok d ⟨s.σ, wHp (hpOf s.ds) s'.ds⟩ else .no
  | .er x s' => if noL x = true then .er x ⟨s.σ, wHp (hpOf s.ds) s'.ds⟩ else .no
  | .no => .no
def mLendF (m : M (List D)) : M (List D) := fun s => match m (lentS s) with
  | .ok d s' => if noLs d = true then .ok d ⟨s.σ, wHp (hpOf s.ds) s'.ds⟩ else .no
  | .er x s' => if noL x = true then .er x ⟨s.σ, wHp (hpOf s.ds) s'.ds⟩ else .no
  | .no => .no

theorem dtA_len0 {K : PySem.W.Frag} {l : Lh} {kvs : List (Key × V)} {ks ds : List D} (r : DtAll K l (kvs.map fun kv => kV kv.1) ks) (r' : DtAll K l (kvs.map (·.2)) ds) (h : (ks.zip ds).isEmpty = true) : kvs = [] := by
  have h1 := r.length
  have h2 := r'.length
  have h3 : (ks.zip ds).length = 0 := by rw [List.isEmpty_iff.mp h]; rfl
  rw [List.length_zip] at h3
  simp at h1 h2
  apply List.eq_nil_of_length_eq_zero
  omega
mutual
theorem snp_dt {K : PySem.W.Frag} {l m : Lh} {r : Nat → Option D} (h1 : ∀ a o, l.L a = some o → m.L a = some o) (hw : m.wm = l.wm) (hr : ∀ k a d', l.cl[k]? = some a → r k = some d' → Dt K m (.ref a) d') : ∀ {v : V} {d d' : D}, Dt K l v d → snp r d = some d' → Dt K m v d'
  | _, _, _, .non, e => by
    cases e
    exact .non
  | _, _, _, .bl b, e => by
    cases e
    exact .bl b
  | _, _, _, .int i, e => by
    cases e
    exact .int i
  | _, _, _, .str x, e => by
    cases e
    exact .str x
  | _, _, _, .lst (ds := ds) h q, e => by
    have e : (snps r ds).map D.lst = some _ := e
    obtain ⟨ys, e1, rfl⟩ := Option.map_eq_some_iff.mp e
    exact .lst (h1 _ _ h) (snps_dt h1 hw hr q e1)
  | _, _, _, .tup (ds := ds) h q, e => by
    have e : (snps r ds).map D.tup = some _ := e
    obtain ⟨ys, e1, rfl⟩ := Option.map_eq_some_iff.mp e
    exact .tup (Ext.sqN h1 h) (snps_dt h1 hw hr q e1)
  | _, _, _, .pr (ds := ds) h q, e => by
    have e : (snps r ds).map D.pr = some _ := e
    obtain ⟨ys, e1, rfl⟩ := Option.map_eq_some_iff.mp e
    exact .pr (Ext.sqT h1 h) (snps_dt h1 hw hr q e1)
  | _, _, _, .dct (kvs := kvs) (vs := vs) (ks := ks) (ds := ds) h z q q', e => by
    have e : (if (ks.zip ds).isEmpty then some (D.dct []) else none) = some _ := e
    split at e
    · rename_i hz
      cases e
      subst z
      have := dtA_len0 q q' hz
      subst this
      exact .dct (kvs := []) (vs := []) (ks := []) (ds := []) (h1 _ _ h) rfl .nil .nil
    · cases e
  | _, _, _, .obj (c := c) (ds := ds) h h' q, e => by
    have e : (snps r ds).map (D.obj c) = some _ := e
    obtain ⟨ys, e1, rfl⟩ := Option.map_eq_some_iff.mp e
    exact .obj (h1 _ _ h) (h1 _ _ h') (snps_dt h1 hw hr q e1)
  | _, _, _, .exc0 h, e => by
    cases e
    exact .exc0 (h1 _ _ h)
  | _, _, _, .exc1 (c := c) (d := d) h0 h h' q, e => by
    have e : ((snp r d).bind fun y => ((some [] : Option (List D))).map fun ys => y :: ys).map (D.exc c) = some _ := e
    cases e1 : snp r d with
    | none =>
      rw [e1] at e
      cases e
    | some y =>
      rw [e1] at e
      cases e
      exact .exc1 h0 (h1 _ _ h) (h1 _ _ h') (snp_dt h1 hw hr q e1)
  | _, _, _, .dm h, e => by
    cases e
    exact .dm (hw.trans h)
  | _, _, _, .scr h, e => by
    cases e
    exact .scr (Ext.sqL h1 h)
  | _, _, _, .cel h, e => hr _ _ _ h e
theorem snps_dt {K : PySem.W.Frag} {l m : Lh} {r : Nat → Option D} (h1 : ∀ a o, l.L a = some o → m.L a = some o) (hw : m.wm = l.wm) (hr : ∀ k a d', l.cl[k]? = some a → r k = some d' → Dt K m (.ref a) d') : ∀ {vs : List V} {ds ds' : List D}, DtAll K l vs ds → snps r ds = some ds' → DtAll K m vs ds'
  | _, _, _, .nil, e => by
    cases e
    exact .nil
  | _, _, _, .cons (d := d) (ds := ds) h q, e => by
    have e : ((snp r d).bind fun y => (snps r ds).map fun ys => y :: ys) = some _ := e
    obtain ⟨y, e1, e⟩ := Option.bind_eq_some_iff.mp e
    obtain ⟨ys, e2, rfl⟩ := Option.map_eq_some_iff.mp e
    exact .cons (snp_dt h1 hw hr h e1) (snps_dt h1 hw hr q e2)
end
theorem mapO_dt {K : PySem.W.Frag} {l m : Lh} {f : D → Option D} (hf : ∀ {v d d'}, Dt K l v d → f d = some d' → Dt K m v d') : ∀ {vs : List V} {ds ds' : List D}, DtAll K l vs ds → mapO f ds = some ds' → DtAll K m vs ds'
  | _, _, _, .nil, e => by
    cases e
    exact .nil
  | _, _, _, .cons (d := d) (ds := ds) h q, e => by
    have e : ((f d).bind fun y => (mapO f ds).map fun ys => y :: ys) = some _ := e
    obtain ⟨y, e1, e⟩ := Option.bind_eq_some_iff.mp e
    obtain ⟨ys, e2, rfl⟩ := Option.map_eq_some_iff.mp e
    exact .cons (hf h e1) (mapO_dt hf q e2)
theorem snap_dt {K : PySem.W.Frag} {l m : Lh} {hp : List (List D)} (h1 : ∀ a o, l.L a = some o → m.L a = some o) (hw : m.wm = l.wm) (h3 : ∀ (k : Nat) a xs, l.cl[k]? = some a → hp[k]? = some xs → ∃ vs, m.L a = some (.lst vs) ∧ DtAll K l vs xs) : ∀ (f : Nat) {v : V} {d d' : D}, Dt K l v d → snap hp f d = some d' → Dt K m v d'
  | 0, _, _, _, h, e => snp_dt h1 hw (fun _ _ _ _ z => by cases z) h e
  | f + 1, _, _, _, h, e => snp_dt h1 hw (fun k a d' ha z => by
    obtain ⟨xs, e1, z⟩ := Option.bind_eq_some_iff.mp z
    obtain ⟨ys, e2, rfl⟩ := Option.map_eq_some_iff.mp z
    obtain ⟨vs, q1, q2⟩ := h3 k a xs ha e1
    exact .lst q1 (mapO_dt (fun h e => snap_dt h1 hw h3 f h e) q2 e2)) h e

/-! ### values without lists do not hang on lists -/
/-- m has what l has, but for lists -/
def Lss (l m : Lh) : Prop := (∀ a o, l.L a = some o → (∀ xs, o ≠ .lst xs) → m.L a = some o) ∧ m.wm = l.wm
theorem Lss.sqN {K : PySem.W.Frag} {l m : Lh} {a : Addr} {xs : List V} (x : Lss l m) (h : SqN K l.L a xs) : SqN K m.L a xs := by
  rcases h with ⟨o, h, hd⟩ | h
  · exact .inl ⟨o, x.1 _ _ h (fun _ z => nomatch z), hd⟩
  · exact .inr h
theorem Lss.sqT {K : PySem.W.Frag} {l m : Lh} {a : Addr} {xs : List V} (x : Lss l m) (h : SqT K l.L a xs) : SqT K m.L a xs := by
  rcases h with (h | ⟨o, h⟩) | h
  · exact .inl (.inl (x.1 _ _ h (fun _ z => nomatch z)))
  · exact .inl (.inr ⟨o, x.1 _ _ h (fun _ z => nomatch z)⟩)
  · exact .inr h
mutual
theorem noL_dt {K : PySem.W.Frag} {l m : Lh} (x : Lss l m) : ∀ {v : V} {d : D}, Dt K l v d → noL d = true → Dt K m v d
  | _, _, .non, _ => .non
  | _, _, .bl b, _ => .bl b
  | _, _, .int i, _ => .int i
  | _, _, .str s, _ => .str s
  | _, _, .lst _ _, e => nomatch e
  | _, _, .tup h q, e => .tup (x.sqN h) (noLs_dt x q e)
  | _, _, .pr h q, e => .pr (x.sqT h) (noLs_dt x q e)
  | _, _, .dct (kvs := kvs) (vs := vs) (ks := ks) (ds := ds) h z q q', e => by
    have e : (ks.zip ds).isEmpty = true := e
    subst z
    have := dtA_len0 q q' e
    subst this
    rw [List.isEmpty_iff.mp e]
    exact .dct (kvs := []) (vs := []) (ks := []) (ds := []) (x.1 _ _ h (fun _ z => nomatch z)) rfl .nil .nil
  | _, _, .obj h h' q, e => .obj (x.1 _ _ h (fun _ z => nomatch z)) (x.1 _ _ h' (fun _ z => nomatch z)) (noLs_dt x q e)
  | _, _, .exc0 h, _ => .exc0 (x.1 _ _ h (fun _ z => nomatch z))
  | _, _, .exc1 (d := d) h0 h h' q, e => .exc1 h0 (x.1 _ _ h (fun _ z => nomatch z)) (x.1 _ _ h' (fun _ z => nomatch z)) (noL_dt x q (by
    have e : (noL d && true) = true := e
    simpa using e))
  | _, _, .dm h, _ => .dm (x.2.trans h)
  | _, _, .scr _, e => nomatch e
  | _, _, .cel _, e => nomatch e
theorem noLs_dt {K : PySem.W.Frag} {l m : Lh} (x : Lss l m) : ∀ {vs : List V} {ds : List D}, DtAll K l vs ds → noLs ds = true → DtAll K m vs ds
  | _, _, .nil, _ => .nil
  | _, _, .cons (d := d) (ds := ds) h q, e => by
    have e : (noL d && noLs ds) = true := e
    rw [Bool.and_eq_true] at e
    exact .cons (noL_dt x h e.1) (noLs_dt x q e.2)
end
theorem fly_noL {K : PySem.W.Frag} {l m : Lh} (x : Lss l m) {cls : Value} {dd : Option Addr} {d : D} (h : Fly K l cls dd d) (e : noL d = true) : Fly K m cls dd d := by
  unfold Fly at h ⊢
  split at h
  · exact h
  · rename_i c y
    obtain ⟨f, dx, v, h1, h2, h3, h4, h5⟩ := h
    refine ⟨f, dx, v, h1, h2, h3, x.1 _ _ h4 (fun _ z => nomatch z), noL_dt x h5 ?_⟩
    have e : (noL y && true) = true := e
    simpa using e
  · exact h.elim

/-! ### lending -/
/-- what is lent: the cells, the slots' own lists -/
def Hid (l : Lh) (S : S) (σ : L2.St) (a : Addr) : Prop := a ∈ l.cl ∨ ∃ (i : Nat) (xs : List D), S.σ[i]? = some (some (.l xs)) ∧ σ[i]? = some (some (.ref a))
noncomputable instance hidDec (l : Lh) (S : S) (σ : L2.St) (a : Addr) : Decidable (Hid l S σ a) := Classical.propDecidable _
noncomputable def lendL (l : Lh) (S : S) (σ : L2.St) (H : Hp) : Lh := ⟨fun a => if Hid l S σ a then H a else l.L a, l.wm, []⟩
noncomputable def backL (l l' : Lh) (S : S) (σ : L2.St) : Lh := ⟨fun a => if Hid l S σ a then none else l'.L a, l'.wm, l.cl⟩
section
variable {K : PySem.W.Frag} {c : Pk} {l l' : Lh} {S S' : Lw.S} {σ : L2.St} {H H' : Hp}
theorem Cells.wmn {ds : Option DSt} (h : Cells K l H ds) : ∀ a ∈ l.cl, a ∉ wmL l.wm := fun a ha => by
  match ds, h with
  | none, h =>
    have h : l.cl = [] := h
    rw [h] at ha
    exact absurd ha List.not_mem_nil
  | some st, ⟨_, _, h, _⟩ => exact h a ha
theorem Cells.at_ {ds : Option DSt} (h : Cells K l H ds) {k : Nat} {a : Addr} {xs : List D} (ha : l.cl[k]? = some a) (hx : (hpOf ds)[k]? = some xs) : ∃ vs, H a = some (.lst vs) ∧ DtAll K l vs xs := by
  match ds, h with
  | none, h => simp [hpOf] at hx
  | some st, ⟨_, _, _, h⟩ =>
    obtain ⟨b, vs, e1, e2, e3⟩ := h k xs hx
    rw [ha] at e1
    cases e1
    exact ⟨vs, e2, e3⟩
theorem Rep.hid (r : Rep K c l S σ H) {a : Addr} (h : Hid l S σ a) : ∃ vs, H a = some (.lst vs) ∧ l.L a = none ∧ a ∉ wmL l.wm := by
  rcases h with h | ⟨i, xs, e1, e2⟩
  · obtain ⟨vs, e⟩ := r.rt.ce.mem a h
    exact ⟨vs, e, r.rt.ml a (List.mem_append_right _ h), r.rt.ce.wmn a h⟩
  · obtain ⟨b, vs, q1, q2, q3, q4, q5, q6⟩ := r.so i xs e1
    rw [e2] at q1
    cases q1
    exact ⟨vs, q2, q4, fun z => q6 (List.mem_append_left _ z)⟩
theorem lend_in {o : HO} {a : Addr} (h : Hid l S σ a) (e : H a = some o) : (lendL l S σ H).L a = some o := by
  show (if Hid l S σ a then H a else l.L a) = _
  rw [if_pos h, e]
theorem lend_old (r : Rep K c l S σ H) {o : HO} {a : Addr} (e : l.L a = some o) : (lendL l S σ H).L a = some o := by
  show (if Hid l S σ a then H a else l.L a) = _
  split
  · rename_i h
    obtain ⟨vs, _, z, _⟩ := r.hid h
    rw [e] at z
    cases z
  · exact e
theorem mr_w {wm : Wm} {ds : Option DSt} (h : MR wm H ds) (hp : List (List D)) : MR wm H (wHp hp ds) := by
  match wm, ds, h with
  | none, none, _ => trivial
  | some (_, _, _), some st, h => exact h
theorem Rep.lendR (r : Rep K c l S σ H) : Ret K c.T (lendL l S σ H) H (lendL l S σ H) H (wHp [] S.ds) where
  gr := Gr.refl _
  lh := fun a o (e : (if Hid l S σ a then H a else l.L a) = some o) => by
    split at e
    · exact e
    · exact r.rt.lh a o e
  nw := fun _ _ h => .inl h
  ml := fun a ha => by
    have ha : a ∈ wmL l.wm := by
      rcases List.mem_append.mp ha with h | h
      · exact h
      · exact absurd h List.not_mem_nil
    show (if Hid l S σ a then H a else l.L a) = none
    split
    · rename_i h
      obtain ⟨_, _, _, z⟩ := r.hid h
      exact absurd ha z
    · exact r.rt.ml a (List.mem_append_left _ ha)
  nt := fun a o (e : (if Hid l S σ a then H a else l.L a) = some o) => by
    split at e
    · rename_i h
      obtain ⟨vs, z, _⟩ := r.hid h
      rw [z] at e
      cases e
      exact fun _ z => nomatch z
    · exact r.rt.nt a o e
  fr := fun _ _ h _ _ => h
  fd := fun _ h => h
  tb := r.rt.tb
  wk := .inl rfl
  ck := fun _ h => .inl h
  mr := mr_w r.rt.mr []
  ce := by
    cases S.ds with
    | none => exact rfl
    | some st => exact ⟨rfl, List.nodup_nil, fun _ h => absurd h List.not_mem_nil, fun k xs e => by simp at e⟩
  sm := r.rt.sm
theorem Rep.snapD (r : Rep K c l S σ H) {v : V} {d d' : D} (h : Dt K l v d) (e : snap (hpOf S.ds) 3 d = some d') : Dt K (lendL l S σ H) v d' :=
  snap_dt (fun a o e => lend_old r e) rfl (fun k a xs ha hx => by
    obtain ⟨vs, e1, e2⟩ := r.rt.ce.at_ ha hx
    exact ⟨vs, lend_in (.inl (List.mem_of_getElem? ha)) e1, e2⟩) 3 h e
theorem Rep.lendI (r : Rep K c l S σ H) : Rep K ⟨c.T, lendL l S σ H, H, c.fx⟩ (lendL l S σ H) (lentS S) σ H where
  rt := r.lendR
  ln := by
    show σ.length = (S.σ.map _).length
    rw [List.length_map]
    exact r.ln
  sd := fun i x (e : (S.σ.map (snSl (hpOf S.ds)))[i]? = some (some (.d x))) => by
    rw [List.getElem?_map] at e
    obtain ⟨y, e1, e⟩ := Option.map_eq_some_iff.mp e
    cases y with
    | none => cases e
    | some y =>
      cases y with
      | d d =>
        have e : (snap (hpOf S.ds) 3 d).map Sl.d = some (.d x) := e
        obtain ⟨d', e2, e3⟩ := Option.map_eq_some_iff.mp e
        cases e3
        obtain ⟨v, h1, h2⟩ := r.sd i d e1
        exact ⟨v, h1, r.snapD h2 e2⟩
      | l xs =>
        have e : (mapO (snap (hpOf S.ds) 3) xs).map (fun ys => Sl.d (.lst ys)) = some (.d x) := e
        obtain ⟨ys, e2, e3⟩ := Option.map_eq_some_iff.mp e
        cases e3
        obtain ⟨a, vs, h1, h2, h3, h4⟩ := r.so i xs e1
        exact ⟨.ref a, h1, .lst (lend_in (.inr ⟨i, xs, e1, h1⟩) h2) (mapO_dt (fun h e => r.snapD h e) h3 e2)⟩
      | f k => cases e
  so := fun i xs (e : (S.σ.map (snSl (hpOf S.ds)))[i]? = some (some (.l xs))) => by
    rw [List.getElem?_map] at e
    obtain ⟨y, e1, e⟩ := Option.map_eq_some_iff.mp e
    cases y with
    | none => cases e
    | some y =>
      cases y with
      | d d =>
        have e : (snap (hpOf S.ds) 3 d).map Sl.d = some (.l xs) := e
        obtain ⟨d', e2, e3⟩ := Option.map_eq_some_iff.mp e
        cases e3
      | l xs =>
        have e : (mapO (snap (hpOf S.ds) 3) xs).map (fun ys => Sl.d (.lst ys)) = some (.l _) := e
        obtain ⟨ys, e2, e3⟩ := Option.map_eq_some_iff.mp e
        cases e3
      | f k => cases e
  di := fun i j xs ys a _ (e : (S.σ.map (snSl (hpOf S.ds)))[i]? = some (some (.l xs))) => by
    rw [List.getElem?_map] at e
    obtain ⟨y, e1, e⟩ := Option.map_eq_some_iff.mp e
    cases y with
    | none => cases e
    | some y =>
      cases y with
      | d d =>
        have e : (snap (hpOf S.ds) 3 d).map Sl.d = some (.l xs) := e
        obtain ⟨d', e2, e3⟩ := Option.map_eq_some_iff.mp e
        cases e3
      | l xs =>
        have e : (mapO (snap (hpOf S.ds) 3) xs).map (fun ys => Sl.d (.lst ys)) = some (.l _) := e
        obtain ⟨ys, e2, e3⟩ := Option.map_eq_some_iff.mp e
        cases e3
      | f k => cases e
  sf := fun i k (e : (S.σ.map (snSl (hpOf S.ds)))[i]? = some (some (.f k))) => by
    rw [List.getElem?_map] at e
    obtain ⟨y, e1, e⟩ := Option.map_eq_some_iff.mp e
    cases y with
    | none => cases e
    | some y =>
      cases y with
      | d d =>
        have e : (snap (hpOf S.ds) 3 d).map Sl.d = some (.f k) := e
        obtain ⟨d', e2, e3⟩ := Option.map_eq_some_iff.mp e
        cases e3
      | l xs =>
        have e : (mapO (snap (hpOf S.ds) 3) xs).map (fun ys => Sl.d (.lst ys)) = some (.f k) := e
        obtain ⟨ys, e2, e3⟩ := Option.map_eq_some_iff.mp e
        cases e3
      | f k' =>
        cases e
        exact r.sf i k e1
theorem back_some {a : Addr} {o : HO} (e : (backL l l' S σ).L a = some o) : ¬ Hid l S σ a ∧ l'.L a = some o := by
  have e : (if Hid l S σ a then none else l'.L a) = some o := e
  split at e
  · cases e
  · rename_i h
    exact ⟨h, e⟩
/-- behind what was done with what was lent -/
theorem Rep.lendB (r : Rep K c l S σ H) {ds' : Option DSt} (q : Ret K c.T (lendL l S σ H) H l' H' ds') : Ret K c.T l H (backL l l' S σ) H' (wHp (hpOf S.ds) ds') := by
  have grow : ∀ a o, l.L a = some o → (backL l l' S σ).L a = some o := fun a o e => by
    have nh : ¬ Hid l S σ a := fun h => by
      obtain ⟨_, _, z, _⟩ := r.hid h
      rw [e] at z
      cases z
    show (if Hid l S σ a then none else l'.L a) = some o
    rw [if_neg nh]
    exact q.gr.1 a o (lend_old r e)
  have wm1 : l.wm = none ∨ l'.wm = l.wm := q.gr.2.1
  have g : Gr l (backL l l' S σ) := ⟨grow, wm1, [], by simp [backL]⟩
  have keep : ∀ a o, H a = some o → a ∉ wmL l.wm → NoTbl o → H' a = some o := fun a o e n t => q.fr a o e (fun z => by
    rcases List.mem_append.mp z with z | z
    · exact n z
    · exact absurd z List.not_mem_nil) t
  have nwm : ∀ a, Hid l S σ a → a ∉ wmL l'.wm := fun a h z => by
    obtain ⟨vs, e, _, n⟩ := r.hid h
    rcases q.wk with w | ⟨_, w⟩
    · have w : l'.wm = l.wm := w
      rw [w] at z
      exact n z
    · rw [w a z] at e
      cases e
  refine ⟨g, fun a o e => q.lh a o (back_some e).2, fun a o e => ?_, fun a ha => ?_, fun a o e => q.nt a o (back_some e).2, fun a o e n t => keep a o e (fun z => n (List.mem_append_left _ z)) t, q.fd, q.tb, q.wk, fun a ha => .inl ha, mr_w q.mr _, ?_, q.sm⟩
  · obtain ⟨nh, e⟩ := back_some e
    rcases q.nw a o e with z | z
    · have z : (if Hid l S σ a then H a else l.L a) = some o := z
      rw [if_neg nh] at z
      exact .inl z
    · exact .inr z
  · show (if Hid l S σ a then none else l'.L a) = none
    split
    · rfl
    · rename_i nh
      have ha : a ∈ wmL l'.wm ++ l.cl := ha
      rcases List.mem_append.mp ha with z | z
      · exact q.ml a (List.mem_append_left _ z)
      · exact absurd (.inl z) nh
  · have ce := r.rt.ce
    have mr0 := r.rt.mr
    have mr1 := q.mr
    cases e0 : S.ds with
    | none =>
      rw [e0] at ce
      have ce : l.cl = [] := ce
      cases ds' with
      | none => exact ce
      | some st =>
        refine ⟨by show l.cl.length = 0; rw [ce]; rfl, by show l.cl.Nodup; rw [ce]; exact List.nodup_nil, fun a ha => ?_, fun k xs e => ?_⟩
        · have ha : a ∈ l.cl := ha
          rw [ce] at ha
          exact absurd ha List.not_mem_nil
        · have e : ([] : List (List D))[k]? = some xs := e
          simp at e
    | some st =>
      rw [e0] at ce mr0
      have hw : l'.wm = l.wm ∧ ∃ t, l.wm = some t := by
        cases ew : l.wm with
        | none =>
          rw [ew] at mr0
          exact mr0.elim
        | some t =>
          refine ⟨?_, t, rfl⟩
          rcases wm1 with z | z
          · rw [ew] at z
            cases z
          · rw [z, ew]
      obtain ⟨hw1, t, hw2⟩ := hw
      cases ds' with
      | none =>
        rw [hw1, hw2] at mr1
        exact mr1.elim
      | some st' =>
        obtain ⟨c1, c2, c3, c4⟩ := ce
        refine ⟨c1, c2, fun a ha => nwm a (.inl ha), fun k xs e => ?_⟩
        obtain ⟨a, vs, e1, e2, e3⟩ := c4 k xs e
        exact ⟨a, vs, e1, keep a _ e2 (c3 a (List.mem_of_getElem? e1)) (fun _ z => nomatch z), e3.grow g⟩
theorem Rep.lss (r : Rep K c l S σ H) {ds' : Option DSt} (q : Ret K c.T (lendL l S σ H) H l' H' ds') : Lss l' (backL l l' S σ) := by
  refine ⟨fun a o e n => ?_, rfl⟩
  show (if Hid l S σ a then none else l'.L a) = some o
  rw [if_neg (fun h => by
    obtain ⟨vs, z, _⟩ := r.hid h
    have := q.gr.1 a _ (lend_in h z)
    rw [e] at this
    cases this
    exact n vs rfl)]
  exact e
theorem Rep.lendO (r : Rep K c l S σ H) (q : Rep K ⟨c.T, lendL l S σ H, H, c.fx⟩ l' S' σ H') : Rep K c (backL l l' S σ) ⟨S.σ, wHp (hpOf S.ds) S'.ds⟩ σ H' ∧ Gr l (backL l l' S σ) ∧ Lss l' (backL l l' S σ) :=
  ⟨r.on (r.lendB q.rt), (r.lendB q.rt).gr, r.lss q.rt⟩
end
section
variable {X : Cx} {c : Pk} {W : WX}
theorem le_lend {e : Expr} {m : M D} (h : ∀ c1 : Pk, c1.T = c.T → LE X c1 W e m) : LE X c W e (mLend m) :=
  ⟨fun pins s σ H Q I ⟨l, S, rp, po⟩ => (h ⟨c.T, lendL l S σ H, H, c.fx⟩ rfl).run pins s σ H Q I ⟨_, _, rp.lendI, by
    have po : Po X.K c W l σ (Dt X.K) Q (match m (lentS S) with
      | .ok d s' => if noL d = true then .ok d ⟨S.σ, wHp (hpOf S.ds) s'.ds⟩ else .no
      | .er x s' => if noL x = true then .er x ⟨S.σ, wHp (hpOf S.ds) s'.ds⟩ else .no
      | .no => .no) := po
    cases e1 : m (lentS S) with
    | no =>
      rw [e1] at po
      exact po
    | er x S' =>
      rw [e1] at po
      dsimp only at po
      split at po
      · rename_i hn
        intro cls dd H' l' rp' g f
        obtain ⟨q1, q2, q3⟩ := rp.lendO rp'
        exact po cls dd H' _ q1 q2 (fly_noL q3 f hn)
      · exact po.elim
    | ok d S' =>
      rw [e1] at po
      dsimp only at po
      split at po
      · rename_i hn
        intro v H' l' rp' g dt
        obtain ⟨q1, q2, q3⟩ := rp.lendO rp'
        exact po v H' _ q1 q2 (noL_dt q3 dt hn)
      · exact po.elim⟩⟩
theorem lendF_imp {K : PySem.W.Frag} {m : M (List D)} {σ : L2.St} {H : Hp} {Q : VK} (h : liftF K c W (mLendF m) σ H Q) : ∃ c1 : Pk, c1.T = c.T ∧ liftF K c1 W m σ H Q := by
  obtain ⟨l, S, rp, po⟩ := h
  refine ⟨⟨c.T, lendL l S σ H, H, c.fx⟩, rfl, _, _, rp.lendI, ?_⟩
  have po : RF K c W l σ Q (match m (lentS S) with
    | .ok d s' => if noLs d = true then .ok d ⟨S.σ, wHp (hpOf S.ds) s'.ds⟩ else .no
    | .er x s' => if noL x = true then .er x ⟨S.σ, wHp (hpOf S.ds) s'.ds⟩ else .no
    | .no => .no) := po
  cases e1 : m (lentS S) with
  | no =>
    rw [e1] at po
    exact po
  | er x S' =>
    rw [e1] at po
    dsimp only at po
    split at po
    · rename_i hn
      intro cls dd H' l' rp' g f
      obtain ⟨q1, q2, q3⟩ := rp.lendO rp'
      exact po cls dd H' _ q1 q2 (fly_noL q3 f hn)
    · exact po.elim
  | ok d S' =>
    rw [e1] at po
    dsimp only at po
    split at po
    · rename_i hn
      intro p vs H' l' rp' g hp u dt
      obtain ⟨q1, q2, q3⟩ := rp.lendO rp'
      have hH : H p = none := u.h
      refine po p vs H' _ q1 q2 hp ⟨?_, rp.rt.fd p hH, fun z => ?_, fun i xs e z => ?_⟩ (noLs_dt q3 dt hn)
      · show (if Hid l S σ p then none else l'.L p) = none
        split
        · rfl
        · exact u.nl
      · have z : p ∈ wmL l'.wm ++ l.cl := z
        rcases List.mem_append.mp z with z | z
        · exact u.w (List.mem_append_left _ z)
        · obtain ⟨ws, e⟩ := rp.rt.ce.mem p z
          rw [hH] at e
          cases e
      · obtain ⟨a, ws, h1, h2, _⟩ := rp.so i xs e
        rw [z] at h1
        cases h1
        rw [hH] at h2
        cases h2
    · exact po.elim
theorem lf_lend {e : Expr} {m : M (List D)} (h : ∀ c1 : Pk, c1.T = c.T → LF X c1 W e m) : LF X c W e (mLendF m) :=
  ⟨fun pins s σ H Q I q => let ⟨c1, e1, q1⟩ := lendF_imp q; (h c1 e1).run pins s σ H Q I q1⟩
/-- y = [..] on one line, over what is lent -/
theorem ls_lendF {i : Nat} {st : Stmt} {m : M (List D)} (h : ∀ c1 : Pk, c1.T = c.T → PS X st (tAsg (liftF X.K c1 W m) (gName i))) : PS X st (tAsg (liftF X.K c W (mLendF m)) (gName i)) :=
  ⟨fun pins s σ H D I q => let ⟨c1, e1, q1⟩ := lendF_imp (show liftF X.K c W (mLendF m) σ H _ from q); (h c1 e1).run pins s σ H D I q1⟩
end
end Lw

set_option Elab.async false
set_option linter.all false
set_option maxRecDepth 100000
set_option maxHeartbeats 4000000
/-! Lw: cells: lists that may be written and that others know. -/
namespace Lw
open PySem PySem.Spec PyProof.Rows L2
/-! ### a new cell; a cell is written -/
/-- a new list becomes a cell -/
def newC (xs : List D) : M D := fun s => match s.ds with
  | some st => .ok (.cel st.hp.length) ⟨s.σ, wHp (st.hp ++ [xs]) s.ds⟩
  | none => .no
def mCel (m : M (List D)) : M D := bnd m newC
/-- what a cell holds becomes f of it -/
def wrC (f : List D → Option (List D)) (d : D) : M Unit := fun s => match d with
  | .cel k => (match (hpOf s.ds)[k]? with
    | some xs => (match f xs with
      | some ys => .ok () ⟨s.σ, wHp ((hpOf s.ds).set k ys) s.ds⟩
      | none => .no)
    | none => .no)
  | _ => .no
/-- what a cell holds -/
def rdC (d : D) : M (List D) := fun s => match d with
  | .cel k => (match (hpOf s.ds)[k]? with
    | some xs => .ok xs s
    | none => .no)
  | _ => .no
section
variable {K : PySem.W.Frag} {c : Pk} {l l' : Lh} {S S' : Lw.S} {σ : L2.St} {H H' : Hp}
theorem Cells.len {st : DSt} (h : Cells K l H (some st)) : l.cl.length = st.hp.length := h.1
theorem Rep.cel (r : Rep K c l S σ H) {st : DSt} {p : Addr} {vs : List V} {xs : List D} (hs : S.ds = some st) (u : Apart c l S σ p) (hp : H p = some (.lst vs)) (h : DtAll K l vs xs) :
    Rep K c ⟨l.L, l.wm, l.cl ++ [p]⟩ ⟨S.σ, wHp (st.hp ++ [xs]) S.ds⟩ σ H ∧ Gr l ⟨l.L, l.wm, l.cl ++ [p]⟩ ∧ Dt K ⟨l.L, l.wm, l.cl ++ [p]⟩ (.ref p) (.cel st.hp.length) := by
  have g : Gr l ⟨l.L, l.wm, l.cl ++ [p]⟩ := ⟨Ext.refl _, .inr rfl, [p], rfl⟩
  have ce := r.rt.ce
  have mr := r.rt.mr
  rw [hs] at ce mr
  obtain ⟨c1, c2, c3, c4⟩ := ce
  have hm : ∀ a, a ∈ mtL ⟨l.L, l.wm, l.cl ++ [p]⟩ → a ∈ mtL l ∨ a = p := fun a ha => by
    have ha : a ∈ wmL l.wm ++ (l.cl ++ [p]) := ha
    rcases List.mem_append.mp ha with z | z
    · exact .inl (List.mem_append_left _ z)
    · rcases List.mem_append.mp z with z | z
      · exact .inl (List.mem_append_right _ z)
      · exact .inr (List.mem_singleton.mp z)
  refine ⟨⟨⟨r.rt.gr.trans g, r.rt.lh, r.rt.nw, fun a ha => ?_, r.rt.nt, r.rt.fr, r.rt.fd, r.rt.tb, r.rt.wk, fun a ha => ?_, mr_w r.rt.mr _, ?_, r.rt.sm⟩, r.ln, fun i x e => ?_, fun i ys e => ?_, r.di, fun i k e => ?_⟩, g, .cel ?_⟩
  · rcases hm a ha with z | z
    · exact r.rt.ml a z
    · rw [z]
      exact u.nl
  · have ha : a ∈ l.cl ++ [p] := ha
    rcases List.mem_append.mp ha with z | z
    · exact r.rt.ck a z
    · rw [List.mem_singleton.mp z]
      exact .inr u.h
  · rw [hs]
    refine ⟨by simp [c1], ?_, fun a ha => ?_, fun k ys e => ?_⟩
    · show (l.cl ++ [p]).Nodup
      rw [List.nodup_append]
      refine ⟨c2, by simp, fun a ha b hb e => ?_⟩
      rw [List.mem_singleton.mp hb] at e
      rw [e] at ha
      exact u.w (List.mem_append_right _ ha)
    · have ha : a ∈ l.cl ++ [p] := ha
      rcases List.mem_append.mp ha with z | z
      · exact c3 a z
      · rw [List.mem_singleton.mp z]
        exact fun z => u.w (List.mem_append_left _ z)
    · have e : (st.hp ++ [xs])[k]? = some ys := e
      by_cases hk : k < st.hp.length
      · rw [List.getElem?_append_left hk] at e
        obtain ⟨a, ws, e1, e2, e3⟩ := c4 k ys e
        refine ⟨a, ws, ?_, e2, e3.grow g⟩
        show (l.cl ++ [p])[k]? = some a
        rw [List.getElem?_append_left (by omega)]
        exact e1
      · have hk2 : k = st.hp.length := by
          have := (List.getElem?_eq_some_iff.mp e).1
          simp at this
          omega
        subst hk2
        rw [List.getElem?_append_right (Nat.le_refl _)] at e
        simp at e
        subst e
        refine ⟨p, vs, ?_, hp, h.grow g⟩
        show (l.cl ++ [p])[st.hp.length]? = some p
        rw [List.getElem?_append_right (by omega), ← c1]
        simp
  · obtain ⟨v, h1, h2⟩ := r.sd i x e
    exact ⟨v, h1, h2.grow g⟩
  · obtain ⟨a, ws, h1, h2, h3, h4, h5, h6⟩ := r.so i ys e
    refine ⟨a, ws, h1, h2, h3.grow g, h4, h5, fun z => ?_⟩
    rcases hm a z with z | z
    · exact h6 z
    · exact u.o i ys e (z ▸ h1)
  · obtain ⟨v, h1, h2⟩ := r.sf i k e
    exact ⟨v, h1.grow g, h2⟩
  · show (l.cl ++ [p])[st.hp.length]? = some p
    rw [List.getElem?_append_right (by omega), ← c1]
    simp
theorem Rep.wrC (r : Rep K c l S σ H) {k : Nat} {a : Addr} {vs : List V} {xs ys : List D} (ha : l.cl[k]? = some a) (hx : (hpOf S.ds)[k]? = some xs) (h : DtAll K l vs ys) :
    Rep K c l ⟨S.σ, wHp ((hpOf S.ds).set k ys) S.ds⟩ σ (upd H a (.lst vs)) := by
  have hm : a ∈ l.cl := List.mem_of_getElem? ha
  have hw : a ∉ wmL l.wm := r.rt.ce.wmn a hm
  obtain ⟨ws, hH⟩ := r.rt.ce.mem a hm
  have nb : ∀ x o, H x = some o → (∀ ws, o ≠ .lst ws) → upd H a (.lst vs) x = some o := fun x o h1 h3 => by
    by_cases hx : x = a
    · rw [hx, hH] at h1
      cases h1
      exact absurd rfl (h3 ws)
    · rw [upd_ne hx]
      exact h1
  refine ⟨⟨r.rt.gr, fun x o e => ?_, r.rt.nw, r.rt.ml, r.rt.nt, fun x o e n t => ?_, fun x e => ?_, tabs_step r.rt.tb fun x o h1 h2 => ?_, r.rt.wk, r.rt.ck, mr_w (r.rt.mr.step fun x hx o e => ?_) _, ?_, by obtain ⟨ob, e⟩ := r.rt.sm; exact ⟨ob, nb _ _ e (fun _ z => nomatch z)⟩⟩, r.ln, r.sd, fun i zs e => ?_, r.di, r.sf⟩
  · by_cases hx : x = a
    · rw [hx, r.rt.ml a (List.mem_append_right _ hm)] at e
      cases e
    · rw [upd_ne hx]
      exact r.rt.lh x o e
  · by_cases hx : x = a
    · rw [hx] at e n
      rcases r.rt.ck a hm with z | z
      · exact absurd (List.mem_append_right _ z) n
      · rw [z] at e
        cases e
    · rw [upd_ne hx]
      exact r.rt.fr x o e n t
  · by_cases hx : x = a
    · rw [hx, upd_same] at e
      cases e
    · rw [upd_ne hx] at e
      exact r.rt.fd x e
  · refine nb x o h1 fun ws z => ?_
    rcases h2 with ⟨ps, h2⟩ | ⟨cc, q, h2⟩
    · rw [z] at h2
      cases h2
    · rw [z] at h2
      unfold LamX.CodeO at h2
      cases h2
  · rw [upd_ne (fun (q : x = a) => hw (q ▸ hx))]
    exact e
  · have ce := r.rt.ce
    cases hs : S.ds with
    | none =>
      rw [hs] at hx
      simp [hpOf] at hx
    | some st =>
      rw [hs] at ce hx
      obtain ⟨c1, c2, c3, c4⟩ := ce
      refine ⟨by show l.cl.length = (st.hp.set k ys).length; rw [List.length_set]; exact c1, c2, c3, fun j zs e => ?_⟩
      have e : (st.hp.set k ys)[j]? = some zs := e
      by_cases hj : k = j
      · subst hj
        rw [List.getElem?_set_self (by rw [← c1]; exact (List.getElem?_eq_some_iff.mp ha).1)] at e
        cases e
        exact ⟨a, vs, ha, upd_same, h⟩
      · rw [List.getElem?_set_ne hj] at e
        obtain ⟨b, us, e1, e2, e3⟩ := c4 j zs e
        refine ⟨b, us, e1, ?_, e3⟩
        rw [upd_ne (fun q => by
          subst q
          exact hj ((List.getElem?_inj (List.getElem?_eq_some_iff.mp ha).1 c2).mp (ha.trans e1.symm)))]
        exact e2
  · obtain ⟨b, us, h1, h2, h3, h4, h5, h6⟩ := r.so i zs e
    refine ⟨b, us, h1, ?_, h3, h4, h5, h6⟩
    rw [upd_ne (fun (q : b = a) => h6 (q ▸ List.mem_append_right _ hm))]
    exact h2
/-- a cell in the heap -/
theorem Rep.atC (r : Rep K c l S σ H) {v : V} {k : Nat} {xs : List D} (h : Dt K l v (.cel k)) (hx : (hpOf S.ds)[k]? = some xs) : ∃ a vs, v = .ref a ∧ l.cl[k]? = some a ∧ H a = some (.lst vs) ∧ DtAll K l vs xs := by
  cases h with
  | cel ha =>
    obtain ⟨vs, e1, e2⟩ := r.rt.ce.at_ ha hx
    exact ⟨_, vs, rfl, ha, e1, e2⟩
end
section
variable {X : Cx} {c : Pk} {W : WX}
theorem cel_imp {m : M (List D)} {σ : L2.St} {H : Hp} {Q : VK} (h : liftE X.K c W (mCel m) σ H Q) : liftF X.K c W m σ H Q := by
  obtain ⟨l, S, rp, po⟩ := h
  refine ⟨l, S, rp, ?_⟩
  unfold mCel at po
  cases e : m S with
  | no =>
    rw [bnd_no e] at po
    exact po
  | er x S1 =>
    rw [bnd_er e] at po
    exact po
  | ok ds S1 =>
    rw [bnd_ok e] at po
    intro p vs H' l' rp' g hp u dt
    unfold newC at po
    split at po
    · rename_i st hs
      have a := rp'.cel hs u hp dt
      exact po _ H' _ a.1 (g.trans a.2.1) a.2.2
    · exact po.elim
theorem le_cel {e : Expr} {m : M (List D)} (h : LF X c W e m) : LE X c W e (mCel m) := PE.imp h fun σ H Q h => cel_imp h
theorem setC_imp {i : Nat} {m : M (List D)} {D : Ends} {σ : L2.St} {H : Hp} (h : liftS X.K c W (sAsg (mCel m) (gV i)) D σ H) : tAsg (liftF X.K c W m) (gName i) D σ H := by
  obtain ⟨l, S, rp, po⟩ := h
  refine cel_imp (m := m) ⟨l, S, rp, Po.bindS (R := Dt X.K) po fun d S1 v H1 l1 _ rp1 g1 q1 po1 => ?_⟩
  by_cases hi2 : i < S1.σ.length
  · have e' : cl (gV i d) S1 = .ok () { S1 with σ := S1.σ.set i (some (.d d)) } := by
      unfold cl gV putS
      rw [if_pos hi2]
    rw [bnd_ok e'] at po1
    exact po1 _ H1 l1 (rp1.set q1) (Gr.refl _)
  · have e' : cl (gV i d) S1 = .no := by
      unfold cl gV putS
      rw [if_neg hi2]
    rw [bnd_no e'] at po1
    exact po1.elim
/-- y = [..] on one line, a cell -/
theorem ls_celF {i : Nat} {st : Stmt} {m : M (List D)} (h : PS X st (tAsg (liftF X.K c W m) (gName i))) : LS X c W st (sAsg (mCel m) (gV i)) := PS.imp h fun D σ H h => setC_imp h
/-! ### E.append(x) -/
def apF (d : D) (xs : List D) : Option (List D) := if xs.length < 16777216 then some (xs ++ [d]) else none
def sAppC (o m : M D) : M Fl := bnd o fun cd => bnd (rdC cd) fun _ => bnd m fun d => bnd (wrC (apF d) cd) fun _ => ret .nx
theorem rdC_ok {d : D} {S S' : Lw.S} {xs : List D} (e : rdC d S = .ok xs S') : S' = S ∧ ∃ k, d = .cel k ∧ (hpOf S.ds)[k]? = some xs := by
  unfold rdC at e
  split at e
  · rename_i k
    split at e
    · rename_i ys hy
      cases e
      exact ⟨rfl, k, rfl, hy⟩
    · cases e
  · cases e
theorem rdC_er {d x : D} {S S' : Lw.S} (e : rdC d S = .er x S') : False := by
  unfold rdC at e
  split at e
  · split at e <;> cases e
  · cases e
theorem PoS.rdC {l : Lh} {D : Ends} {d : Lw.D} {S : Lw.S} {K : PySem.W.Frag} {f : List Lw.D → M Fl} (h : PoS K c W l D (bnd (Lw.rdC d) f S)) : ∃ k xs, d = .cel k ∧ (hpOf S.ds)[k]? = some xs ∧ PoS K c W l D (f xs S) := by
  cases e : Lw.rdC d S with
  | no =>
    rw [bnd_no e] at h
    exact h.elim
  | er x S' => exact (rdC_er e).elim
  | ok xs S' =>
    rw [bnd_ok e] at h
    obtain ⟨rfl, k, rfl, hx⟩ := rdC_ok e
    exact ⟨k, xs, rfl, hx, h⟩
theorem Po.rdC {α β : Type} {l : Lh} {σ : L2.St} {R : Lh → β → α → Prop} {Q : β → Hp → Prop} {d : Lw.D} {S : Lw.S} {K : PySem.W.Frag} {f : List Lw.D → M α} (h : Po K c W l σ R Q (bnd (Lw.rdC d) f S)) : ∃ k xs, d = .cel k ∧ (hpOf S.ds)[k]? = some xs ∧ Po K c W l σ R Q (f xs S) := by
  cases e : Lw.rdC d S with
  | no =>
    rw [bnd_no e] at h
    exact h.elim
  | er x S' => exact (rdC_er e).elim
  | ok xs S' =>
    rw [bnd_ok e] at h
    obtain ⟨rfl, k, rfl, hx⟩ := rdC_ok e
    exact ⟨k, xs, rfl, hx, h⟩
theorem wrC_ok {f : List D → Option (List D)} {d : D} {S S' : Lw.S} (e : wrC f d S = .ok () S') : ∃ k xs ys, d = .cel k ∧ (hpOf S.ds)[k]? = some xs ∧ f xs = some ys ∧ S' = ⟨S.σ, wHp ((hpOf S.ds).set k ys) S.ds⟩ := by
  unfold wrC at e
  split at e
  · rename_i k
    split at e
    · rename_i xs hx
      split at e
      · rename_i ys hy
        cases e
        exact ⟨k, xs, ys, rfl, hx, hy, rfl⟩
      · cases e
    · cases e
  · cases e
theorem wrC_er {f : List D → Option (List D)} {d x : D} {S S' : Lw.S} (e : wrC f d S = .er x S') : False := by
  unfold wrC at e
  split at e
  · split at e
    · split at e <;> cases e
    · cases e
  · cases e
theorem PoS.wrC {l : Lh} {D : Ends} {f : List Lw.D → Option (List Lw.D)} {d : Lw.D} {S : Lw.S} {K : PySem.W.Frag} {g : Unit → M Fl} (h : PoS K c W l D (bnd (Lw.wrC f d) g S)) : ∃ k xs ys, d = .cel k ∧ (hpOf S.ds)[k]? = some xs ∧ f xs = some ys ∧ PoS K c W l D (g () ⟨S.σ, wHp ((hpOf S.ds).set k ys) S.ds⟩) := by
  cases e : Lw.wrC f d S with
  | no =>
    rw [bnd_no e] at h
    exact h.elim
  | er x S' => exact (wrC_er e).elim
  | ok u S' =>
    rw [bnd_ok e] at h
    obtain ⟨k, xs, ys, e1, e2, e3, e4⟩ := wrC_ok e
    rw [e4] at h
    exact ⟨k, xs, ys, e1, e2, e3, h⟩
theorem Po.wrC {α β : Type} {l : Lh} {σ : L2.St} {R : Lh → β → α → Prop} {Q : β → Hp → Prop} {f : List Lw.D → Option (List Lw.D)} {d : Lw.D} {S : Lw.S} {K : PySem.W.Frag} {g : Unit → M α} (h : Po K c W l σ R Q (bnd (Lw.wrC f d) g S)) : ∃ k xs ys, d = .cel k ∧ (hpOf S.ds)[k]? = some xs ∧ f xs = some ys ∧ Po K c W l σ R Q (g () ⟨S.σ, wHp ((hpOf S.ds).set k ys) S.ds⟩) := by
  cases e : Lw.wrC f d S with
  | no =>
    rw [bnd_no e] at h
    exact h.elim
  | er x S' => exact (wrC_er e).elim
  | ok u S' =>
    rw [bnd_ok e] at h
    obtain ⟨k, xs, ys, e1, e2, e3, e4⟩ := wrC_ok e
    rw [e4] at h
    exact ⟨k, xs, ys, e1, e2, e3, h⟩
theorem ls_appC {o e : Expr} {mo m : M D} {apos cpos pos : Pos} (ho : LE X c W o mo) (h : LE X c W e m)
    (hbase : attributeBase o "append" X.env (eval o X.env) = eval o X.env := by rfl)
    (hfew : ((backTo cpos (starEach [e] X.env)).all (fun x => !x.1) && (backToKw cpos (keywordEach [] X.env)).all (fun x => x.1.isSome) && decide ([e].length + ([] : List Keyword).length + (if ([] : List Keyword).isEmpty then 0 else 1) < 30)) = true := by rfl)
    (hline : (apos.endLine == cpos.line) = true := by rfl) (hs : starEach [e] X.env = (false, eval e X.env) :: starEach [] X.env := by rfl) (hsw : swapsWith (.Call (.Attribute o "append" apos) [e] [] cpos) none pos.line X.env = pure false := by rfl) :
    LS X c W (.Expr (.Call (.Attribute o "append" apos) [e] [] cpos) pos) (sAppC mo m) :=
  PS.imp (ps_expr (pe_bm PySem.F.plainAttrs_list PySem.F.slot_list_append PySem.F.type_list_append mt_append ho (pa_cons h pa_nil hs) hbase hfew hline hs) hsw) fun D σ H ⟨l, S, rp, po⟩ => by
    refine ⟨l, S, rp, Po.bindS (R := Dt X.K) po fun cd S1 v H1 l1 _ rp1 g1 q1 po1 => ?_⟩
    obtain ⟨k, xs, rfl, hx, po1⟩ := po1.rdC
    obtain ⟨a, ws, rfl, ha, h2, h3⟩ := rp1.atC q1 hx
    refine ⟨.inl ⟨rfl, _, SqL.of h2⟩, l1, S1, rp1, Po.bindS (R := Dt X.K) po1 fun d S2 w H2 l2 _ rp2 g2 q2 po2 => ?_⟩
    obtain ⟨k', xs', ys, ek, hx', hy, po2⟩ := po2.wrC
    cases ek
    obtain ⟨a', ws', ea, ha', h2', h3'⟩ := rp2.atC (q1.grow g2) hx'
    cases ea
    unfold apF at hy
    split at hy
    · rename_i hz
      cases hy
      refine ⟨a, ws', w, rfl, rfl, h2', by rw [h3'.length, sizeLine_eq]; exact hz, ?_⟩
      exact po2 σ _ l2 (rp2.wrC ha' hx' (h3'.append (.cons q2 .nil))) (Gr.refl _)
    · cases hy
/-! ### E[k] = x -/
def ixFC (k : Int) (d : D) (xs : List D) : Option (List D) := (ixOf xs.length k).map fun j => xs.set j d
def gIxC (o k : M D) : Tg := fun d => bnd o fun cd => bnd k fun z => match z with
  | .int i => wrC (ixFC i d) cd
  | _ => stuck
theorem lg_ixC {o b : Expr} {mo k : M D} {pos : Pos} {vs : Nat → Prop} (ho : LE X c noW o mo) (hk : LE X c noW b k)
    (ha : ∀ v, assign (.Subscript o b pos) X.env v = (do
      let ov ← holding [v] (eval o X.env)
      let iv ← holding [v, ov] (eval b X.env)
      standAt pos
      holding [v, ov, iv] (setItem ov iv v)
      release [v, ov, iv] []) := by intro _; rfl) : LG X c vs (.Subscript o b pos) (gIxC mo k) :=
  ⟨fun pins s σ H v u Q I r ⟨l, S, d, rp, dt, q⟩ => (pg_sub ho hk set_list ha).run pins s σ H v u Q I r (by
    refine ⟨l, S, rp, ?_⟩
    unfold gIxC at q
    cases e1 : mo S with
    | no =>
      rw [bnd_no e1] at q
      exact q.elim
    | er y S1 =>
      rw [bnd_er e1] at q
      exact q.elim
    | ok cd S1 =>
      rw [bnd_ok e1] at q
      intro v1 H1 l1 rp1 g1 q1
      refine ⟨l1, S1, rp1, ?_⟩
      cases e2 : k S1 with
      | no =>
        rw [bnd_no e2] at q
        exact q.elim
      | er y S2 =>
        rw [bnd_er e2] at q
        exact q.elim
      | ok z S2 =>
        rw [bnd_ok e2] at q
        intro v2 H2 l2 rp2 g2 q2
        cases z with
        | int i =>
          dsimp only at q
          cases q2
          cases e3 : wrC (ixFC i d) cd S2 with
          | no =>
            rw [e3] at q
            exact q.elim
          | er y S3 =>
            rw [e3] at q
            exact q.elim
          | ok uu S3 =>
            rw [e3] at q
            dsimp only at q
            obtain ⟨kk, xs, ys, rfl, hx, hy, rfl⟩ := wrC_ok e3
            obtain ⟨a, ws, rfl, ha, h2, h3⟩ := rp2.atC (q1.grow g2) hx
            unfold ixFC at hy
            obtain ⟨j, ej, rfl⟩ := Option.map_eq_some_iff.mp hy
            refine ⟨a, ws, i, j, rfl, rfl, h2, by rw [h3.length, ← ixOf_eq]; exact ej, ?_⟩
            exact q σ _ l2 (rp2.wrC ha hx (h3.set (dt.grow (g1.trans g2)) j)) (g1.trans g2) (Off.refl _ _)
        | _ => exact q.elim)⟩
/-! ### E[k], a cell's item -/
def mIxC (o k : M D) : M D := bnd o fun cd => bnd k fun z => bnd (rdC cd) fun xs => opt (dIx (.lst xs) z)
theorem le_ixC {a b : Expr} {o k : M D} {pos : Pos} (ha : LE X c W a o) (hb : LE X c W b k) (hs : PlainIx b := by exact fun _ _ => rfl) : LE X c W (.Subscript a b pos) (mIxC o k) :=
  PE.imp (pe_ix ix_seq ha hb hs) fun σ H Q ⟨l, S, rp, po⟩ => by
    refine ⟨l, S, rp, Po.bind (R := Dt X.K) po fun cd S1 v H1 l1 _ rp1 g1 q1 po1 => ?_⟩
    refine ⟨l1, S1, rp1, Po.bind (R := Dt X.K) po1 fun z S2 w H2 l2 _ rp2 g2 q2 po2 => ?_⟩
    obtain ⟨kk, xs, rfl, hx, po2⟩ := po2.rdC
    obtain ⟨a, ws, rfl, ha, h2, h3⟩ := rp2.atC (q1.grow g2) hx
    obtain ⟨d, ed, po2⟩ := po2.opt
    exact sm_ix l2 H2 (.ref a) w (.lst xs) z d Q rp2.rt.lh (.inr ⟨a, ws, xs, rfl, rfl, h2, h3⟩) (.inl q2) ed (Po.give rp2 po2)
/-! ### E.pop() -/
def mPopC (o : M D) : M D := bnd o fun cd => bnd (rdC cd) fun xs => match xs[xs.length - 1]? with
  | some d => bnd (wrC (fun xs => some xs.dropLast) cd) fun _ => ret d
  | none => stuck
theorem le_popC {o : Expr} {mo : M D} {apos cpos : Pos} (ho : LE X c W o mo) (hbase : attributeBase o "pop" X.env (eval o X.env) = eval o X.env := by rfl) (hline : (apos.endLine == cpos.line) = true := by rfl) :
    LE X c W (.Call (.Attribute o "pop" apos) [] [] cpos) (mPopC mo) :=
  PE.imp (pe_bm0 PySem.F.plainAttrs_list PySem.F.slot_list_pop PySem.F.type_list_pop mt_pop ho hbase hline) fun σ H Q ⟨l, S, rp, po⟩ => by
    refine ⟨l, S, rp, Po.bind (R := Dt X.K) po fun cd S1 v H1 l1 _ rp1 g1 q1 po1 => ?_⟩
    obtain ⟨k, xs, rfl, hx, po1⟩ := po1.rdC
    obtain ⟨a, ws, rfl, ha, h2, h3⟩ := rp1.atC q1 hx
    cases ed : xs[xs.length - 1]? with
    | none =>
      rw [ed] at po1
      exact po1.elim
    | some d =>
      rw [ed] at po1
      obtain ⟨k', xs', ys, ek, hx', hy, po1⟩ := po1.wrC
      cases ek
      rw [hx] at hx'
      cases hx'
      cases hy
      rw [← h3.length] at ed
      obtain ⟨w, ew, dw⟩ := h3.get ed
      exact ⟨.inl ⟨rfl, _, SqL.of h2⟩, a, ws, w, rfl, rfl, h2, ew, po1 w _ l1 (rp1.wrC ha hx h3.dropLast) (Gr.refl _) dw⟩
/-! ### name += e, whole numbers -/
def sAugI (i : Nat) (f : Int → Int → Int) (m : M D) : M Fl := fun s => match s.σ[i]? with
  | some (some (.d (.int x))) => bnd m (fun y => match y with
    | .int y => bnd (putS i (.d (.int (f x y)))) fun _ => ret .nx
    | _ => stuck) s
  | _ => .no
theorem ls_augI (i : Nat) {f : Int → Int → Int} {op : Operator} {x : Str} {e : Expr} {m : M D} {pos pos' : Pos} (ho : PIp X op (ipI f)) (hN : X.N.Nodup) (h : LE X c W e m) (hi : X.N[i]? = some x := by rfl) (hx : Loc X.env.scope x := by first | exact Or.inl rfl | exact Or.inr rfl)
    (hf : X.fn x = true ∨ X.env.scope.names.lookup x = some .local := by first | exact .inl rfl | exact .inr rfl) : LS X c W (.AugAssign (.Name x pos') op e pos) (sAugI i f m) :=
  PS.imp (ps_aug hN hi hx h ho hf) fun D σ H ⟨l, S, rp, po⟩ => by
    have po : PoS X.K c W l D (match S.σ[i]? with
      | some (some (.d (.int x))) => bnd m (fun y => match y with
        | .int y => bnd (putS i (.d (.int (f x y)))) fun _ => ret .nx
        | _ => stuck) S
      | _ => .no) := po
    split at po
    · rename_i a ea
      obtain ⟨v, h1, h2⟩ := rp.sd i _ ea
      cases h2
      refine ⟨_, h1, l, S, rp, Po.bindS (R := Dt X.K) po fun y S1 w H1 l1 _ rp1 g1 q1 po1 => ?_⟩
      cases y with
      | int b =>
        cases q1
        dsimp only at po1
        refine ⟨a, b, rfl, rfl, ?_⟩
        unfold putS at po1
        by_cases hl : i < S1.σ.length
        · have e2 : (fun s : Lw.S => if i < s.σ.length then Res.ok () { s with σ := s.σ.set i (some (.d (.int (f a b)))) } else Res.no) S1 = .ok () { S1 with σ := S1.σ.set i (some (.d (.int (f a b)))) } := if_pos hl
          rw [bnd_ok e2] at po1
          exact po1 _ H1 l1 (rp1.set (.int _)) (Gr.refl _)
        · have e2 : (fun s : Lw.S => if i < s.σ.length then Res.ok () { s with σ := s.σ.set i (some (.d (.int (f a b)))) } else Res.no) S1 = .no := if_neg hl
          rw [bnd_no e2] at po1
          exact po1.elim
      | _ => exact po1.elim
    · exact po.elim
end
/-! ### a def's own cells are values when it returns -/
mutual
/-- no cell in it -/
def noC : D → Bool
  | .cel _ => false
  | .lst xs => noCs xs
  | .tup xs => noCs xs
  | .pr xs => noCs xs
  | .obj _ xs => noCs xs
  | .exc _ xs => noCs xs
  | .dct kvs => noCk kvs
  | _ => true
def noCs : List D → Bool
  | [] => true
  | x :: xs => noC x && noCs xs
def noCk : List (D × D) → Bool
  | [] => true
  | (k, v) :: r => noC k && noC v && noCk r
end
theorem noCk_zip : ∀ {ks ds : List D}, ks.length = ds.length → noCk (ks.zip ds) = true → noCs ks = true ∧ noCs ds = true
  | [], [], _, _ => ⟨rfl, rfl⟩
  | k :: ks, d :: ds, hl, h => by
    have h : (noC k && noC d && noCk (ks.zip ds)) = true := h
    rw [Bool.and_eq_true, Bool.and_eq_true] at h
    obtain ⟨h1, h2⟩ := noCk_zip (ks := ks) (ds := ds) (by simpa using hl) h.2
    exact ⟨by show (noC k && noCs ks) = true; rw [h.1.1, h1]; rfl, by show (noC d && noCs ds) = true; rw [h.1.2, h2]; rfl⟩
  | [], _ :: _, hl, _ => by simp at hl
  | _ :: _, [], hl, _ => by simp at hl
mutual
theorem noC_dt {K : PySem.W.Frag} {l m : Lh} (x : Ext l.L m.L) (hw : m.wm = l.wm) : ∀ {v : V} {d : D}, Dt K l v d → noC d = true → Dt K m v d
  | _, _, .non, _ => .non
  | _, _, .bl b, _ => .bl b
  | _, _, .int i, _ => .int i
  | _, _, .str s, _ => .str s
  | _, _, .lst h q, e => .lst (x _ _ h) (noCs_dt x hw q e)
  | _, _, .tup h q, e => .tup (x.sqN h) (noCs_dt x hw q e)
  | _, _, .pr h q, e => .pr (x.sqT h) (noCs_dt x hw q e)
  | _, _, .dct (kvs := kvs) (vs := vs) (ks := ks) (ds := ds) h z q q', e => by
    have hl : ks.length = ds.length := by
      rw [← q.length, ← q'.length, z]
      simp
    obtain ⟨h1, h2⟩ := noCk_zip hl e
    exact .dct (x _ _ h) z (noCs_dt x hw q h1) (noCs_dt x hw q' h2)
  | _, _, .obj h h' q, e => .obj (x _ _ h) (x _ _ h') (noCs_dt x hw q e)
  | _, _, .exc0 h, _ => .exc0 (x _ _ h)
  | _, _, .exc1 (d := d) h0 h h' q, e => .exc1 h0 (x _ _ h) (x _ _ h') (noC_dt x hw q (by
    have e : (noC d && true) = true := e
    simpa using e))
  | _, _, .dm h, _ => .dm (hw.trans h)
  | _, _, .scr h, _ => .scr (x.sqL h)
  | _, _, .cel _, e => nomatch e
theorem noCs_dt {K : PySem.W.Frag} {l m : Lh} (x : Ext l.L m.L) (hw : m.wm = l.wm) : ∀ {vs : List V} {ds : List D}, DtAll K l vs ds → noCs ds = true → DtAll K m vs ds
  | _, _, .nil, _ => .nil
  | _, _, .cons (d := d) (ds := ds) h q, e => by
    have e : (noC d && noCs ds) = true := e
    rw [Bool.and_eq_true] at e
    exact .cons (noC_dt x hw h e.1) (noCs_dt x hw q e.2)
end
/-- a def whose cells nobody else knows -/
def zF (fm : Fn) : Fn := fun xs ds => if noCs xs = true then
    match fm xs (wHp [] ds) with
    | .ok d ds' => (match snap (hpOf ds') 3 d with
      | some d' => .ok d' (wHp (hpOf ds) ds')
      | none => .no)
    | .er x ds' => (match snap (hpOf ds') 3 x with
      | some x' => .er x' (wHp (hpOf ds) ds')
      | none => .no)
    | .no => .no
  else .no
noncomputable instance celDec (l : Lh) (a : Addr) : Decidable (a ∈ l.cl) := Classical.propDecidable _
noncomputable def frzL (l l' : Lh) (H' : Hp) : Lh := ⟨fun a => if a ∈ l'.cl then H' a else l'.L a, l'.wm, l.cl⟩
section
variable {K : PySem.W.Frag} {T : List (Addr × Str)} {l l' : Lh} {H H' : Hp} {ds ds' : Option DSt}
theorem Ret.bare (r : Ret K T l H l H ds) : Ret K T ⟨l.L, l.wm, []⟩ H ⟨l.L, l.wm, []⟩ H (wHp [] ds) where
  gr := Gr.refl _
  lh := r.lh
  nw := fun _ _ h => .inl h
  ml := fun a ha => by
    have ha : a ∈ wmL l.wm ++ [] := ha
    rw [List.append_nil] at ha
    exact r.ml a (List.mem_append_left _ ha)
  nt := r.nt
  fr := fun _ _ h _ _ => h
  fd := fun _ h => h
  tb := r.tb
  wk := .inl rfl
  ck := fun _ h => .inl h
  mr := mr_w r.mr []
  ce := by
    cases ds with
    | none => exact rfl
    | some st => exact ⟨rfl, List.nodup_nil, fun _ h => absurd h List.not_mem_nil, fun k xs e => by simp at e⟩
  sm := r.sm
theorem Ret.frz (r : Ret K T l H l H ds) (q : Ret K T ⟨l.L, l.wm, []⟩ H l' H' ds') : Ret K T l H (frzL l l' H') H' (wHp (hpOf ds) ds') ∧ (∀ {v : V} {d d' : D}, Dt K l' v d → snap (hpOf ds') 3 d = some d' → Dt K (frzL l l' H') v d') := by
  have fresh : ∀ a ∈ l'.cl, H a = none := fun a ha => by
    rcases q.ck a ha with z | z
    · exact absurd z List.not_mem_nil
    · exact z
  have up : ∀ a o, l'.L a = some o → (frzL l l' H').L a = some o := fun a o e => by
    show (if a ∈ l'.cl then H' a else l'.L a) = some o
    split
    · rename_i h
      rw [q.ml a (List.mem_append_right _ h)] at e
      cases e
    · exact e
  have wm1 : l.wm = none ∨ l'.wm = l.wm := q.gr.2.1
  have g : Gr l (frzL l l' H') := ⟨fun a o e => up a o (q.gr.1 a o e), wm1, [], by simp [frzL]⟩
  have keep : ∀ a o, H a = some o → a ∉ wmL l.wm → NoTbl o → H' a = some o := fun a o e n t => q.fr a o e (fun z => by
    have z : a ∈ wmL l.wm ++ [] := z
    rw [List.append_nil] at z
    exact n z) t
  have old : ∀ a ∈ l.cl, ∃ vs, H a = some (.lst vs) := r.ce.mem
  refine ⟨⟨g, fun a o (e : (if a ∈ l'.cl then H' a else l'.L a) = some o) => ?_, fun a o (e : (if a ∈ l'.cl then H' a else l'.L a) = some o) => ?_, fun a ha => ?_, fun a o (e : (if a ∈ l'.cl then H' a else l'.L a) = some o) => ?_, fun a o e n t => keep a o e (fun z => n (List.mem_append_left _ z)) t, q.fd, q.tb, q.wk, fun a ha => .inl ha, mr_w q.mr _, ?_, q.sm⟩, fun {v d d'} h e => ?_⟩
  · split at e
    · exact e
    · exact q.lh a o e
  · split at e
    · rename_i h
      exact .inr (fresh a h)
    · exact q.nw a o e
  · have ha : a ∈ wmL l'.wm ++ l.cl := ha
    show (if a ∈ l'.cl then H' a else l'.L a) = none
    rcases List.mem_append.mp ha with z | z
    · rw [if_neg (fun h => q.ce.wmn a h z)]
      exact q.ml a (List.mem_append_left _ z)
    · obtain ⟨vs, e⟩ := old a z
      rw [if_neg (fun h => by rw [fresh a h] at e; cases e)]
      cases e2 : l'.L a with
      | none => rfl
      | some o =>
        rcases q.nw a o e2 with y | y
        · have y : l.L a = some o := y
          rw [r.ml a (List.mem_append_right _ z)] at y
          cases y
        · rw [e] at y
          cases y
  · split at e
    · rename_i h
      obtain ⟨vs, z⟩ := q.ce.mem a h
      rw [z] at e
      cases e
      exact fun _ z => nomatch z
    · exact q.nt a o e
  · have ce := r.ce
    have mr0 := r.mr
    have mr1 := q.mr
    cases ds with
    | none =>
      have ce : l.cl = [] := ce
      cases ds' with
      | none => exact ce
      | some st =>
        refine ⟨by show l.cl.length = 0; rw [ce]; rfl, by show l.cl.Nodup; rw [ce]; exact List.nodup_nil, fun a ha => ?_, fun k xs e => ?_⟩
        · have ha : a ∈ l.cl := ha
          rw [ce] at ha
          exact absurd ha List.not_mem_nil
        · have e : ([] : List (List D))[k]? = some xs := e
          simp at e
    | some st =>
      have hw : l'.wm = l.wm ∧ ∃ t, l.wm = some t := by
        cases ew : l.wm with
        | none =>
          rw [ew] at mr0
          exact mr0.elim
        | some t =>
          refine ⟨?_, t, rfl⟩
          rcases wm1 with z | z
          · rw [ew] at z
            cases z
          · rw [z, ew]
      obtain ⟨hw1, t, hw2⟩ := hw
      cases ds' with
      | none =>
        rw [hw1, hw2] at mr1
        exact mr1.elim
      | some st' =>
        obtain ⟨c1, c2, c3, c4⟩ := ce
        refine ⟨c1, c2, fun a ha z => ?_, fun k xs e => ?_⟩
        · have z : a ∈ wmL l'.wm := z
          rw [hw1] at z
          exact c3 a ha z
        · obtain ⟨a, vs, e1, e2, e3⟩ := c4 k xs e
          exact ⟨a, vs, e1, keep a _ e2 (c3 a (List.mem_of_getElem? e1)) (fun _ z => nomatch z), e3.grow g⟩
  · refine snap_dt up rfl (fun k a xs ha hx => ?_) 3 h e
    obtain ⟨vs, e1, e2⟩ := q.ce.at_ ha hx
    refine ⟨vs, ?_, e2⟩
    show (if a ∈ l'.cl then H' a else l'.L a) = some (.lst vs)
    rw [if_pos (List.mem_of_getElem? ha)]
    exact e1
theorem snap_exc0 {hp : List (List D)} {c : String} {x : D} (e : snap hp 3 (.exc c []) = some x) : x = .exc c [] := by
  cases e
  rfl
theorem snap_fly {m : Lh} {hp : List (List D)} {cls : Value} {dd : Option Addr} {x x' : D} (up : ∀ a o, l'.L a = some o → m.L a = some o) (hv : ∀ {v : V} {d d' : D}, Dt K l' v d → snap hp 3 d = some d' → Dt K m v d') (f : Fly K l' cls dd x) (e : snap hp 3 x = some x') : Fly K m cls dd x' := by
  unfold Fly at f
  split at f
  · rename_i c
    cases e
    exact f
  · rename_i c y
    obtain ⟨fn, dx, v, h1, h2, h3, h4, h5⟩ := f
    have e : ((snap hp 3 y).bind fun z => ((some [] : Option (List D))).map fun ys => z :: ys).map (D.exc c) = some _ := e
    cases e1 : snap hp 3 y with
    | none =>
      rw [e1] at e
      cases e
    | some z =>
      rw [e1] at e
      cases e
      exact ⟨fn, dx, v, h1, h2, h3, up _ _ h4, hv h5 e1⟩
  · exact f.elim
end
theorem FnG.fz {P : Program} {w : World} {K : PySem.W.Frag} {mg : Str → Option Value} {base : Heap} {T : List (Addr × Str)} {k : Nat} {f : Addr} {n : Nat} {fm : Fn} (F : FnG P w K mg base T k f n fm) : FnG P w K mg base T k f n (zF fm) :=
  fun A outer s H us vs Q E hr gd e0 rv ⟨hl, l, ds, xs, rt, da, post⟩ => F A outer s H us vs Q E hr gd e0 rv ⟨hl, by
    by_cases hn : noCs xs = true
    · have post : match (match fm xs (wHp [] ds) with
          | .ok d ds' => (match snap (hpOf ds') 3 d with
            | some d' => Out.ok d' (wHp (hpOf ds) ds')
            | none => .no)
          | .er x ds' => (match snap (hpOf ds') 3 x with
            | some x' => .er x' (wHp (hpOf ds) ds')
            | none => .no)
          | .no => .no) with
        | .ok d ds' => ∀ v H' l', Ret K T l H l' H' ds' → Dt K l' v d → Q v H'
        | .er x ds' => ∀ cls dd H' l', Ret K T l H l' H' ds' → Fly K l' cls dd x → E cls dd H'
        | .no => False := by
        unfold zF at post
        rw [if_pos hn] at post
        exact post
      refine ⟨⟨l.L, l.wm, []⟩, wHp [] ds, xs, rt.bare, noCs_dt (l := l) (m := ⟨l.L, l.wm, []⟩) (Ext.refl _) rfl da hn, ?_⟩
      cases e : fm xs (wHp [] ds) with
      | no =>
        rw [e] at post
        exact post
      | er x ds' =>
        rw [e] at post
        dsimp only at post
        cases ex : snap (hpOf ds') 3 x with
        | none =>
          rw [ex] at post
          exact post.elim
        | some x' =>
          rw [ex] at post
          intro cls dd H' l' q fl
          obtain ⟨r1, r2⟩ := rt.frz q
          exact post cls dd H' _ r1 (snap_fly (fun a o e => by
            show (if a ∈ l'.cl then H' a else l'.L a) = some o
            split
            · rename_i h
              rw [q.ml a (List.mem_append_right _ h)] at e
              cases e
            · exact e) r2 fl ex)
      | ok d ds' =>
        rw [e] at post
        dsimp only at post
        cases ed : snap (hpOf ds') 3 d with
        | none =>
          rw [ed] at post
          exact post.elim
        | some d' =>
          rw [ed] at post
          intro v H' l' q dt
          obtain ⟨r1, r2⟩ := rt.frz q
          exact post v H' _ r1 (r2 dt ed)
    · unfold zF at post
      rw [if_neg hn] at post
      exact post.elim⟩
end Lw

set_option Elab.async false
set_option linter.all false
set_option maxRecDepth 100000
set_option maxHeartbeats 4000000
/-! Lw: dicts of constants. -/
namespace Lw
open PySem PySem.Spec PyProof.Rows L2
theorem tPairs_c {σ : L2.St} {H : Hp} : ∀ (kvs : List (Key × V)) {Q : List (V × V) → Hp → Prop}, Q (kvs.map fun kv => (kV kv.1, kv.2)) H → tPairs (kvs.map fun kv => (tC (kV kv.1), tC kv.2)) σ H Q
  | [], _, h => h
  | kv :: kvs, Q, h => tPairs_c kvs (Q := fun ps H => Q ((kV kv.1, kv.2) :: ps) H) h
section
variable {X : Cx} {c : Pk} {W : WX}
/-- a dict of constants -/
theorem le_dctC {keys : List (Option Expr)} {values : List Expr} {pos : Pos} (kvs : List (Key × V)) (ks ds : List D) (h : PPs X pos keys values (kvs.map fun kv => (tC (kV kv.1), tC kv.2))) (hk : ∀ l, DtAll X.K l (kvs.map fun kv => kV kv.1) ks) (hv : ∀ l, DtAll X.K l (kvs.map (·.2)) ds) (hm : mergeK [] kvs = kvs := by rfl) (h15 : kvs.length ≤ 15 := by decide)
    (hall : keys.all (·.isSome) = true := by rfl) (hl : keys.length = values.length := by rfl) (h0 : keys ≠ [] := by exact fun z => nomatch z) (k15 : keys.length ≤ 15 := by decide) : LE X c W (.Dict keys values pos) (ret (.dct (ks.zip ds))) :=
  PE.imp (pe_disp h hall hl h0 k15) fun σ H Q ⟨l, S, rp, po⟩ => fun p hp => tPairs_c kvs ⟨upd_same, kvs, rfl, h15, by
    rw [hm, show upd (upd H p (.dK [])) p (.dK kvs) = upd H p (.dK kvs) from by
      funext a
      by_cases z : a = p
      · subst z
        rw [upd_same, upd_same]
      · rw [upd_ne z, upd_ne z, upd_ne z]]
    obtain ⟨rp1, g1⟩ := rp.lay (o := .dK kvs) hp (fun _ z => nomatch z)
    exact po _ _ _ rp1 g1 (.dct upd_same rfl (hk _) (hv _))⟩
end
end Lw

set_option Elab.async false
set_option linter.all false
set_option maxRecDepth 100000
set_option maxHeartbeats 4000000
/-! Lw: == of a list and a tuple, whatever is in them. -/
namespace Lw
open PySem PySem.Spec PyProof.Rows L2
def dEqX (a b : D) : Option D := match a, b with
  | .lst _, .tup _ => some (.bl false)
  | a, b => dEq a b
section
variable {X : Cx}
def rEqX (K : PySem.W.Frag) : R2 := fun x y H Q => rEqD K x y H Q ∨ ∃ a b xs ys, x = .ref a ∧ y = .ref b ∧ H a = some (.lst xs) ∧ SqT K H b ys ∧ Q (.bl false) H
theorem op_eqX (hu : X.A.units + 64 < cLine) : OpR X (compareOp .Eq) (rEqX X.K) := by
  intro pins s σ H x y v u Q I rx ry h
  rcases h with h | ⟨a, b, xs, ys, rfl, rfl, h1, h2, q⟩
  · exact op_eqD hu pins s σ H x y v u Q I rx ry h
  · cases rx
    cases ry
    obtain ⟨its, n, r, ho, hz⟩ := I.lst h1
    obtain ⟨its2, r2, ht, hz2⟩ := I.tuple h2
    exact (SeqAt.RcAt.list_tuple ⟨_, ho, rfl, n, rfl⟩ ht (by omega)) X.prog X.w _ _ ⟨.bl _, H, I, rfl, q⟩
end
def dNeX (a b : D) : Option D := match a, b with
  | .lst _, .tup _ => some (.bl true)
  | a, b => dNe a b
section
variable {X : Cx}
def rNeX (K : PySem.W.Frag) : R2 := fun x y H Q => rNeD K x y H Q ∨ ∃ a b xs ys, x = .ref a ∧ y = .ref b ∧ H a = some (.lst xs) ∧ SqT K H b ys ∧ Q (.bl true) H
theorem op_neX (hu : X.A.units + 64 < cLine) : OpR X (compareOp .NotEq) (rNeX X.K) := by
  intro pins s σ H x y v u Q I rx ry h
  rcases h with h | ⟨a, b, xs, ys, rfl, rfl, h1, h2, q⟩
  · exact op_neD hu pins s σ H x y v u Q I rx ry h
  · cases rx
    cases ry
    obtain ⟨its, n, r, ho, hz⟩ := I.lst h1
    obtain ⟨its2, r2, ht, hz2⟩ := I.tuple h2
    exact (SeqAt.RcNeAt.list_tuple ⟨_, ho, rfl, n, rfl⟩ ht (by omega)) X.prog X.w _ _ ⟨.bl _, H, I, rfl, q⟩
end
theorem sm_neX {K : PySem.W.Frag} : Sem2 K dNeX (rNeX K) := by
  intro l H v w a b d Q x ra rb e g
  unfold dNeX at e
  split at e
  · cases e
    obtain ⟨p, vs, rfl, h1, h2⟩ := ra.lst x
    obtain ⟨p', vs', rfl, h1', h2'⟩ := rb.tup x
    exact .inr ⟨p, p', vs, vs', rfl, rfl, h1, h1', g.1 _ (.bl _)⟩
  · exact .inl (sm_ne l H v w _ _ d Q x ra rb e g)
theorem sm_eqX {K : PySem.W.Frag} : Sem2 K dEqX (rEqX K) := by
  intro l H v w a b d Q x ra rb e g
  unfold dEqX at e
  split at e
  · cases e
    obtain ⟨p, vs, rfl, h1, h2⟩ := ra.lst x
    obtain ⟨p', vs', rfl, h1', h2'⟩ := rb.tup x
    exact .inr ⟨p, p', vs, vs', rfl, rfl, h1, h1', g.1 _ (.bl _)⟩
  · exact .inl (sm_eq l H v w _ _ d Q x ra rb e g)
end Lw

set_option Elab.async false
set_option linter.all false
set_option maxRecDepth 100000
set_option maxHeartbeats 4000000
/-! Lw: comprehensions with two clauses. -/
namespace Lw
open PySem PySem.Spec PyProof.Rows L2
def lcN1 (g : Tg) (t : M Bool) (it1 : M (List D)) (g1 : Tg) (t1 : M Bool) (e : M D) (vs vs1 : List Nat) (x : D) : M (List D) := fun s => match bnd (cl (g x)) (fun _ => bnd t fun z => if z then bnd it1 (fun ys s => lcL g1 t1 e vs1 ys { s with σ := wipeS vs1 s.σ }) else ret []) s with
  | .ok a s' => .ok a { s' with σ := wipeS vs s'.σ }
  | _ => .no
def lcNL (g : Tg) (t : M Bool) (it1 : M (List D)) (g1 : Tg) (t1 : M Bool) (e : M D) (vs vs1 : List Nat) : List D → M (List D)
  | [] => ret []
  | x :: xs => bnd (lcN1 g t it1 g1 t1 e vs vs1 x) fun y => bnd (lcNL g t it1 g1 t1 e vs vs1 xs) fun ys => ret (y ++ ys)
def lcNA (g : Tg) (t : M Bool) (it1 : M (List D)) (g1 : Tg) (t1 : M Bool) (e : M D) (vs vs1 : List Nat) (xs : List D) : M (List D) := fun s => if noOwn vs s.σ then
    match lcNL g t it1 g1 t1 e vs vs1 xs { s with σ := wipeS vs s.σ } with
    | .ok ys s' => if ys.length ≤ line then .ok ys { s' with σ := unwipe s.σ vs s'.σ } else .no
    | _ => .no
  else .no
/-- [e for g in it if t for g1 in it1 if t1]; vs: all names, vs1: those of the second target -/
def mLcN (it : M (List D)) (g : Tg) (t : M Bool) (it1 : M (List D)) (g1 : Tg) (t1 : M Bool) (e : M D) (vs vs1 : List Nat) : M (List D) := bnd it fun xs => lcNA g t it1 g1 t1 e vs vs1 xs
theorem Apart.l0 {K : PySem.W.Frag} {c : Pk} {l : Lh} {S : S} {σ : L2.St} {H : Hp} {p : Addr} (r : Rep K c l S σ H) (u : Apart c l S σ p) : c.l0.L p = none := by
  cases q : c.l0.L p with
  | none => rfl
  | some o =>
    have := r.rt.gr.1 p o q
    rw [u.nl] at this
    cases this
/-- the turn of a comprehension -/
theorem lc_turn {K : PySem.W.Frag} {c : Pk} {vs : List Nat} {g : Tg} {t : M Bool} {e : M D} {G : TG} {TT' : TT} {TE' : TE}
    (hG : ∀ p a, ∀ x σ H Q, liftTg K (c.and p a) (· ∈ vs) g x σ H Q → G x σ H Q) (hT : ∀ p a, ∀ σ H Q, liftT K (c.and p a) noW t σ H Q → TT' σ H Q) (hE : ∀ p a, ∀ σ H Q, liftE K (c.and p a) noW e σ H Q → TE' σ H Q)
    {σ : L2.St} {l2 : Lh} {S2 S4 : S} {H2 H3 : Hp} {acc : List V} {pre y : List D} {P : Addr} {x : V} {d : D} (r2 : Rep K c l2 S2 (L2.wipe σ vs) H2) (hDv : H2 P = some (.lst acc)) (dt : DtAll K l2 acc pre) (u2 : Apart c l2 S2 (L2.wipe σ vs) P)
    (hx : (H3 = H2 ∧ Dt K l2 x d) ∨ ∃ T ws ds, x = .ref T ∧ H2 T = none ∧ H3 = upd H2 T (.tup ws) ∧ d = .pr ds ∧ DtAll K l2 ws ds) (e1 : lc1 g t e vs d S2 = .ok y S4) (hlen : pre.length + y.length ≤ sizeLine) {Px : Hp → Prop}
    (next : ∀ l5 H5 acc5, Rep K c l5 S4 (L2.wipe σ vs) H5 → Gr l2 l5 → H5 P = some (.lst acc5) → DtAll K l5 acc5 (pre ++ y) → Apart c l5 S4 (L2.wipe σ vs) P → Px H5) :
    G x (L2.wipe σ vs) H3 fun σ2 H2 => L2.wipe σ2 vs = L2.wipe σ vs ∧ TT' σ2 H2 fun b H3 => if b = true then TE' σ2 H3 fun y H4 => ∃ acc, H4 P = some (.lst acc) ∧ acc.length < sizeLine ∧ Px (upd H4 P (.lst (acc ++ [y]))) else Px H3 := by
  have hl0 := u2.l0 r2
  have hw0 : P ∉ mtL c.l0 := u2.wm0 r2
  obtain ⟨l3, r3, g3, dx⟩ : ∃ l3, Rep K (c.and P (.lst acc)) l3 S2 (L2.wipe σ vs) H3 ∧ Gr l2 l3 ∧ Dt K l3 x d := by
    have m2 := r2.mind u2 hDv
    rcases hx with ⟨rfl, dx⟩ | ⟨T, ws, ds, rfl, hT', rfl, rfl, dx⟩
    · exact ⟨l2, m2, Gr.refl _, dx⟩
    · have := m2.lay (o := .tup ws) hT' nt_tup
      exact ⟨_, this.1, this.2, .pr (SqT.of upd_same) (dx.grow this.2)⟩
  have fin : ∀ (l5 : Lh) (S5 : Lw.S) (σ5 : L2.St) (H5 : Hp) (acc5 : List V), Rep K c l5 S5 σ5 H5 → Off (· ∈ vs) (L2.wipe σ vs) σ5 → Gr l3 l5 → H5 P = some (.lst acc5) → DtAll K l5 acc5 (pre ++ y) → Apart c l5 S5 σ5 P → S4 = { S5 with σ := wipeS vs S5.σ } → Px H5 := by
    intro l5 S5 σ5 H5 acc5 r5 off g5 h5 d5 u5 e4
    have rw5 := r5.wipe vs
    have uw5 := u5.wipe vs
    rw [wipe_off off, ← e4] at rw5
    rw [wipe_off off, ← e4] at uw5
    exact next l5 H5 acc5 rw5 (g3.trans g5) h5 d5 uw5
  unfold lc1 at e1
  refine hG P (.lst acc) _ _ _ _ ⟨l3, S2, d, r3, dx, ?_⟩
  cases eg : g d S2 with
  | no =>
    have q : cl (g d) S2 = .no := by unfold cl; rw [eg]
    rw [bnd_no q] at e1
    cases e1
  | er z Sg =>
    have q : cl (g d) S2 = .no := by unfold cl; rw [eg]
    rw [bnd_no q] at e1
    cases e1
  | ok u Sg =>
    have q : cl (g d) S2 = .ok u Sg := by unfold cl; rw [eg]
    rw [bnd_ok q] at e1
    intro σ4 H4 l4 r4 g4 off4
    refine ⟨wipe_off off4, hT P (.lst acc) _ _ _ ⟨l4, Sg, r4, ?_⟩⟩
    cases et : t Sg with
    | no =>
      rw [bnd_no et] at e1
      cases e1
    | er z St =>
      rw [bnd_er et] at e1
      cases e1
    | ok b St =>
      rw [bnd_ok et] at e1
      intro b' H5 l5 r5 g5 eb
      subst eb
      cases b' with
      | false =>
        rw [if_neg Bool.false_ne_true]
        have e1 : Res.ok ([] : List Lw.D) { St with σ := wipeS vs St.σ } = .ok y S4 := e1
        injection e1 with q1 q2
        obtain ⟨r6, h6, u6⟩ := r5.unmind u2.h hl0 hw0
        exact fin l5 St σ4 H5 acc r6 off4 (g4.trans g5) h6 (by rw [← q1, List.append_nil]; exact dt.grow (g3.trans (g4.trans g5))) u6 q2.symm
      | true =>
        rw [if_pos rfl]
        rw [if_pos rfl] at e1
        refine hE P (.lst acc) _ _ _ ⟨l5, St, r5, ?_⟩
        cases ee : e St with
        | no =>
          rw [bnd_no ee] at e1
          cases e1
        | er z Se =>
          rw [bnd_er ee] at e1
          cases e1
        | ok dy Se =>
          rw [bnd_ok ee] at e1
          have e1 : Res.ok [dy] { Se with σ := wipeS vs Se.σ } = .ok y S4 := e1
          injection e1 with q1 q2
          intro vy H6 l6 r6 g6 dty
          obtain ⟨r7, h7, u7⟩ := r6.unmind u2.h hl0 hw0
          refine ⟨acc, h7, by rw [dt.length]; rw [← q1] at hlen; simp at hlen; omega, ?_⟩
          refine fin l6 Se σ4 _ _ (r7.wrO u7 h7) off4 (g4.trans (g5.trans g6)) upd_same ?_ u7 q2.symm
          rw [← q1]
          exact (dt.grow (g3.trans (g4.trans (g5.trans g6)))).append (.cons dty .nil)
theorem lcL_step {g : Tg} {t : M Bool} {e : M D} {vs : List Nat} {d : D} {ds ys : List D} {S S' : Lw.S} (h : lcL g t e vs (d :: ds) S = .ok ys S') : ∃ y zs S1, lc1 g t e vs d S = .ok y S1 ∧ lcL g t e vs ds S1 = .ok zs S' ∧ ys = y ++ zs := by
  have h : bnd (lc1 g t e vs d) (fun y => bnd (lcL g t e vs ds) fun ys => ret (y ++ ys)) S = .ok ys S' := h
  cases e1 : lc1 g t e vs d S with
  | no =>
    rw [bnd_no e1] at h
    cases h
  | er x S4 =>
    rw [bnd_er e1] at h
    cases h
  | ok y S1 =>
    rw [bnd_ok e1] at h
    cases e2 : lcL g t e vs ds S1 with
    | no =>
      rw [bnd_no e2] at h
      cases h
    | er x S4 =>
      rw [bnd_er e2] at h
      cases h
    | ok zs S2 =>
      rw [bnd_ok e2] at h
      cases h
      exact ⟨y, zs, S1, rfl, e2, rfl⟩
theorem lcNL_step {g : Tg} {t : M Bool} {it1 : M (List D)} {g1 : Tg} {t1 : M Bool} {e : M D} {vs vs1 : List Nat} {d : D} {ds ys : List D} {S S' : Lw.S} (h : lcNL g t it1 g1 t1 e vs vs1 (d :: ds) S = .ok ys S') : ∃ y zs S1, lcN1 g t it1 g1 t1 e vs vs1 d S = .ok y S1 ∧ lcNL g t it1 g1 t1 e vs vs1 ds S1 = .ok zs S' ∧ ys = y ++ zs := by
  have h : bnd (lcN1 g t it1 g1 t1 e vs vs1 d) (fun y => bnd (lcNL g t it1 g1 t1 e vs vs1 ds) fun ys => ret (y ++ ys)) S = .ok ys S' := h
  cases e1 : lcN1 g t it1 g1 t1 e vs vs1 d S with
  | no =>
    rw [bnd_no e1] at h
    cases h
  | er x S4 =>
    rw [bnd_er e1] at h
    cases h
  | ok y S1 =>
    rw [bnd_ok e1] at h
    cases e2 : lcNL g t it1 g1 t1 e vs vs1 ds S1 with
    | no =>
      rw [bnd_no e2] at h
      cases h
    | er x S4 =>
      rw [bnd_er e2] at h
      cases h
    | ok zs S2 =>
      rw [bnd_ok e2] at h
      cases h
      exact ⟨y, zs, S1, rfl, e2, rfl⟩
theorem drop_cons {xs : List D} {i : Nat} {d : D} (hd : xs[i]? = some d) : xs.drop i = d :: xs.drop (i + 1) := by
  obtain ⟨hlt, q⟩ := List.getElem?_eq_some_iff.mp hd
  rw [← q]
  exact List.drop_eq_getElem_cons hlt
theorem lcN_imp {K : PySem.W.Frag} {c : Pk} {W : WX} {vs vs1 : List Nat} {it it1 : M (List D)} {g g1 : Tg} {t t1 : M Bool} {e : M D} {G G1 : TG} {TT' TT1 : TT} {TE' : TE} {WI1 : TI} (hv : ∀ i ∈ vs1, i ∈ vs)
    (hG : ∀ p a, ∀ x σ H Q, liftTg K (c.and p a) (· ∈ vs) g x σ H Q → G x σ H Q) (hT : ∀ p a, ∀ σ H Q, liftT K (c.and p a) noW t σ H Q → TT' σ H Q) (hI1 : ∀ p a, ∀ σ H Q, liftI K (c.and p a) noW it1 σ H Q → WI1 σ H Q)
    (hG1 : ∀ p a, ∀ x σ H Q, liftTg K (c.and p a) (· ∈ vs1) g1 x σ H Q → G1 x σ H Q) (hT1 : ∀ p a, ∀ σ H Q, liftT K (c.and p a) noW t1 σ H Q → TT1 σ H Q) (hE : ∀ p a, ∀ σ H Q, liftE K (c.and p a) noW e σ H Q → TE' σ H Q)
    {σ : L2.St} {H : Hp} {Q : VK} (h : liftF K c W (mLcN it g t it1 g1 t1 e vs vs1) σ H Q) : tLc2 (liftI K c W it) G TT' WI1 G1 TT1 TE' vs vs1 σ H Q := by
  obtain ⟨l, S, rp, po⟩ := h
  refine ⟨l, S, rp, ?_⟩
  unfold mLcN at po
  cases ei : it S with
  | no =>
    rw [bnd_no ei] at po
    exact po
  | er x S1 =>
    rw [bnd_er ei] at po
    exact po
  | ok xs S1 =>
    rw [bnd_ok ei] at po
    intro J H1 l1 rp1 g1' ⟨hz, Gd, Y, wk, hGd, hY⟩ P hD
    unfold lcNA at po
    cases en : noOwn vs S1.σ with
    | false =>
      rw [en] at po
      exact po.elim
    | true =>
      rw [en, if_pos rfl] at po
      have n0 := rp1.new (vs := []) hD
      have w0 := n0.1.wipe vs
      have u0 := n0.2.wipe vs
      have sw := sizeLine_eq
      cases eL0 : lcNL g t it1 g1 t1 e vs vs1 xs { S1 with σ := wipeS vs S1.σ } with
      | no =>
        rw [eL0] at po
        exact po.elim
      | er x S3 =>
        rw [eL0] at po
        exact po.elim
      | ok tot Sf =>
      rw [eL0] at po
      dsimp only at po
      by_cases htot : tot.length ≤ line
      case neg =>
        rw [if_neg htot] at po
        exact po.elim
      rw [if_pos htot] at po
      have htot : tot.length ≤ sizeLine := htot
      -- what holds at the head of each turn
      let Pv : Nat → Hp → Prop := fun i H => ∃ l2 S2 acc pre, Rep K c l2 S2 (L2.wipe σ vs) H ∧ Gr l1 l2 ∧ H P = some (.lst acc) ∧ DtAll K l2 acc pre ∧ Apart c l2 S2 (L2.wipe σ vs) P ∧
        ∃ ys, lcNL g t it1 g1 t1 e vs vs1 (xs.drop i) S2 = .ok ys Sf ∧ tot = pre ++ ys
      refine ⟨fun i m H => m = xs.length - i ∧ i ≤ xs.length ∧ Pv i H, ⟨xs.length, by simp, Nat.zero_le _, l1, _, [], [], w0, Gr.refl _, upd_same, .nil, u0, tot, eL0, rfl⟩, ?_⟩
      rintro i m H2 ⟨rfl, hi, l2, S2, acc, pre, r2, g2, hDv, dt, u2, ys, eL, eT⟩
      have q := hGd H2 (g2.1.trans r2.rt.lh)
      by_cases hlt : i < xs.length
      · refine .inr ⟨wk.goes i H2 hlt q, Pv (i + 1), fun H' p' => ⟨xs.length - (i + 1), by omega, rfl, hlt, p'⟩, fun x H3 hy => ?_⟩
        obtain ⟨d, hd, hx⟩ := hY i H2 x H3 l2 hlt g2 r2.rt.lh (wk.yields i H2 x H3 hlt q hy)
        rw [drop_cons hd] at eL
        obtain ⟨y, zs, S4, e1, e2, rfl⟩ := lcNL_step eL
        have hl0 := u2.l0 r2
        have hw0 : P ∉ mtL c.l0 := u2.wm0 r2
        obtain ⟨l3, r3, g3, dx⟩ : ∃ l3, Rep K (c.and P (.lst acc)) l3 S2 (L2.wipe σ vs) H3 ∧ Gr l2 l3 ∧ Dt K l3 x d := by
          have m2 := r2.mind u2 hDv
          rcases hx with ⟨rfl, dx⟩ | ⟨T, ws, ds, rfl, hT', rfl, rfl, dx⟩
          · exact ⟨l2, m2, Gr.refl _, dx⟩
          · have := m2.lay (o := .tup ws) hT' nt_tup
            exact ⟨_, this.1, this.2, .pr (SqT.of upd_same) (dx.grow this.2)⟩
        have fin : ∀ (l5 : Lh) (S5 : Lw.S) (σ5 : L2.St) (H5 : Hp) (acc5 : List V), Rep K c l5 S5 σ5 H5 → Off (· ∈ vs) (L2.wipe σ vs) σ5 → Gr l3 l5 → H5 P = some (.lst acc5) → DtAll K l5 acc5 (pre ++ y) → Apart c l5 S5 σ5 P → S4 = { S5 with σ := wipeS vs S5.σ } → Pv (i + 1) H5 := by
          intro l5 S5 σ5 H5 acc5 r5 off g5 h5 d5 u5 e4
          have rw5 := r5.wipe vs
          have uw5 := u5.wipe vs
          rw [wipe_off off, ← e4] at rw5
          rw [wipe_off off, ← e4] at uw5
          exact ⟨l5, S4, acc5, pre ++ y, rw5, g2.trans (g3.trans g5), h5, d5, uw5, zs, e2, by rw [eT, List.append_assoc]⟩
        unfold lcN1 at e1
        refine hG P (.lst acc) _ _ _ _ ⟨l3, S2, d, r3, dx, ?_⟩
        cases eg : g d S2 with
        | no =>
          have q : cl (g d) S2 = .no := by unfold cl; rw [eg]
          rw [bnd_no q] at e1
          cases e1
        | er z Sg =>
          have q : cl (g d) S2 = .no := by unfold cl; rw [eg]
          rw [bnd_no q] at e1
          cases e1
        | ok u Sg =>
          have q : cl (g d) S2 = .ok u Sg := by unfold cl; rw [eg]
          rw [bnd_ok q] at e1
          intro σ4 H4 l4 r4 g4 off4
          refine ⟨wipe_off off4, hT P (.lst acc) _ _ _ ⟨l4, Sg, r4, ?_⟩⟩
          cases et : t Sg with
          | no =>
            rw [bnd_no et] at e1
            cases e1
          | er z St =>
            rw [bnd_er et] at e1
            cases e1
          | ok b St =>
            rw [bnd_ok et] at e1
            intro b' H5 l5 r5 g5 eb
            subst eb
            cases b' with
            | false =>
              rw [if_neg Bool.false_ne_true]
              have e1 : Res.ok ([] : List Lw.D) { St with σ := wipeS vs St.σ } = .ok y S4 := e1
              injection e1 with q1 q2
              obtain ⟨r6, h6, u6⟩ := r5.unmind u2.h hl0 hw0
              exact fin l5 St σ4 H5 acc r6 off4 (g4.trans g5) h6 (by rw [← q1, List.append_nil]; exact dt.grow (g3.trans (g4.trans g5))) u6 q2.symm
            | true =>
              rw [if_pos rfl]
              rw [if_pos rfl] at e1
              refine hI1 P (.lst acc) _ _ _ ⟨l5, St, r5, ?_⟩
              cases ej : it1 St with
              | no =>
                rw [bnd_no ej] at e1
                cases e1
              | er z Sj =>
                rw [bnd_er ej] at e1
                cases e1
              | ok ws Sj =>
                rw [bnd_ok ej] at e1
                intro J1 H6 l6 r6 g6 ⟨hz1, Gd1, Y1, wk1, hGd1, hY1⟩
                obtain ⟨r7, h7, u7⟩ := r6.unmind u2.h hl0 hw0
                have w7 := r7.wipe vs1
                have uw7 := u7.wipe vs1
                cases ek : lcL g1 t1 e vs1 ws { Sj with σ := wipeS vs1 Sj.σ } with
                | no =>
                  rw [ek] at e1
                  cases e1
                | er z Sk =>
                  rw [ek] at e1
                  cases e1
                | ok y' Sk =>
                  rw [ek] at e1
                  have e1 : Res.ok y' { Sk with σ := wipeS vs Sk.σ } = .ok y S4 := e1
                  injection e1 with q1 q2
                  subst q1
                  have dt6 := dt.grow (g3.trans (g4.trans (g5.trans g6)))
                  let Pv1 : Nat → Hp → Prop := fun j H => ∃ l8 S8 acc8 pre8, Rep K c l8 S8 (L2.wipe σ4 vs1) H ∧ Gr l6 l8 ∧ H P = some (.lst acc8) ∧ DtAll K l8 acc8 (pre ++ pre8) ∧ Apart c l8 S8 (L2.wipe σ4 vs1) P ∧
                    ∃ ys8, lcL g1 t1 e vs1 (ws.drop j) S8 = .ok ys8 Sk ∧ y' = pre8 ++ ys8
                  refine ⟨fun j k H => k = ws.length - j ∧ j ≤ ws.length ∧ Pv1 j H, ⟨ws.length, by simp, Nat.zero_le _, l6, _, acc, [], w7, Gr.refl _, h7, by rw [List.append_nil]; exact dt6, uw7, y', ek, rfl⟩, ?_⟩
                  rintro j k H8 ⟨rfl, hj, l8, S8, acc8, pre8, r8, g8, h8, dt8, u8, ys8, eL8, eT8⟩
                  have q8 := hGd1 H8 (g8.1.trans r8.rt.lh)
                  by_cases hlj : j < ws.length
                  · refine .inr ⟨wk1.goes j H8 hlj q8, Pv1 (j + 1), fun H' p' => ⟨ws.length - (j + 1), by omega, rfl, hlj, p'⟩, fun x1 H9 hy1 => ?_⟩
                    obtain ⟨d1, hd1, hx1⟩ := hY1 j H8 x1 H9 l8 hlj g8 r8.rt.lh (wk1.yields j H8 x1 H9 hlj q8 hy1)
                    rw [drop_cons hd1] at eL8
                    obtain ⟨y1, zs1, S9, f1, f2, rfl⟩ := lcL_step eL8
                    refine lc_turn (σ := σ4) hG1 hT1 hE r8 h8 dt8 u8 hx1 f1 ?_ ?_
                    · have : tot.length = pre.length + (pre8.length + (y1.length + zs1.length)) + zs.length := by
                        rw [eT, eT8]
                        simp
                        omega
                      rw [List.length_append]
                      omega
                    · intro l10 H10 acc10 r10 g10 h10 dt10 u10
                      exact ⟨l10, S9, acc10, pre8 ++ y1, r10, g8.trans g10, h10, by rw [← List.append_assoc]; exact dt10, u10, zs1, f2, by rw [eT8, List.append_assoc]⟩
                  · have ej' : j = ws.length := by omega
                    subst ej'
                    rw [List.drop_length] at eL8
                    have eL8 : Res.ok ([] : List Lw.D) S8 = .ok ys8 Sk := eL8
                    injection eL8 with z1 z2
                    subst z1 z2
                    rw [List.append_nil] at eT8
                    subst eT8
                    refine .inl ⟨wk1.stops H8 q8, ?_⟩
                    have off5 : Off (· ∈ vs) (L2.wipe σ vs) (L2.wipe σ4 vs1) := ⟨by rw [wipe_length]; exact off4.1, fun j hj => by rw [wipe_out (fun z => hj (hv j z))]; exact off4.2 j hj⟩
                    exact fin l8 S8 (L2.wipe σ4 vs1) H8 acc8 r8 off5 (g4.trans (g5.trans (g6.trans g8))) h8 dt8 u8 q2.symm
      · have ei' : i = xs.length := by omega
        subst ei'
        refine .inl ⟨wk.stops H2 q, ?_⟩
        rw [List.drop_length] at eL
        have eL : Res.ok ([] : List Lw.D) S2 = .ok ys Sf := eL
        injection eL with z1 z2
        subst z1 z2
        rw [List.append_nil] at eT
        subst eT
        have r3 := rp1.unwipe r2 g2 en
        refine po P acc H2 l2 r3 (g1'.trans g2) hDv ⟨u2.nl, u2.h, u2.w, fun i zs e z => ?_⟩ dt
        have e : (Lw.unwipe S1.σ vs S2.σ)[i]? = some (some (.l zs)) := e
        by_cases hv : i ∈ vs
        · have hl : i < S2.σ.length := by
            have := (List.getElem?_eq_some_iff.mp e).1
            rw [unwipe_len] at this
            exact this
          rw [unwipe_in hl hv] at e
          have q := List.all_eq_true.mp en i hv
          cases w : S1.σ[i]? with
          | none =>
            rw [w] at e
            cases e
          | some s =>
            rw [w] at e q
            have e : s = some (.l zs) := by simpa using e
            rw [e] at q
            cases q
        · rw [unwipe_out hv] at e
          exact u2.o i zs e (by rw [wipe_out hv]; exact z)
section
variable {X : Cx} {c : Pk} {W : WX}
/-- [e for x in xs if t for y in ys if t1], a new list -/
theorem lf_lcN {elt tg iter tg1 iter1 : Expr} {ifs ifs1 : List Expr} {scope : Scope} (own : List (Str × Nat)) (vs1 : List Nat) {pos : Pos} {it it1 : M (List D)} {g g1 : Tg} {t t1 : M Bool} {e : M D} (hc : X.calm = true) (hN : X.N.Nodup) (hi : LI X c W tg iter it) (ok : BlkOk X.N X.env.scope scope own) (hv : ∀ i ∈ vs1, i ∈ own.map (·.2))
    (hg : ∀ (s : Shared) (H : Hp) (C : Addr) (cl : List (Str × Addr)) (fp : List Addr) (c' : Pk), c'.T = c.T → LG (X.blk s H scope (compEnvC scope cl C X.env) fp) c' (· ∈ own.map (·.2)) tg g)
    (ht : ∀ (s : Shared) (H : Hp) (C : Addr) (cl : List (Str × Addr)) (fp : List Addr) (c' : Pk), c'.T = c.T → LQ (X.blk s H scope (compEnvC scope cl C X.env) fp) c' ifs t)
    (hi1 : ∀ (s : Shared) (H : Hp) (C : Addr) (cl : List (Str × Addr)) (fp : List Addr) (c' : Pk), c'.T = c.T → LI (X.blk s H scope (compEnvC scope cl C X.env) fp) c' noW tg1 iter1 it1)
    (hg1 : ∀ (s : Shared) (H : Hp) (C : Addr) (cl : List (Str × Addr)) (fp : List Addr) (c' : Pk), c'.T = c.T → LG (X.blk s H scope (compEnvC scope cl C X.env) fp) c' (· ∈ vs1) tg1 g1)
    (ht1 : ∀ (s : Shared) (H : Hp) (C : Addr) (cl : List (Str × Addr)) (fp : List Addr) (c' : Pk), c'.T = c.T → LQ (X.blk s H scope (compEnvC scope cl C X.env) fp) c' ifs1 t1)
    (he : ∀ (s : Shared) (H : Hp) (C : Addr) (cl : List (Str × Addr)) (fp : List Addr) (c' : Pk), c'.T = c.T → LE (X.blk s H scope (compEnvC scope cl C X.env) fp) c' noW elt e)
    (hs : ∀ x, foldedSetIterable iter X.env x = pure x := by intro _; rfl) (hs1 : ∀ env x, foldedSetIterable iter1 env x = pure x := by intro _ _; rfl) : LF X c W (.ListComp elt [⟨tg, iter, ifs, 0⟩, ⟨tg1, iter1, ifs1, 0⟩] scope pos) (mLcN it g t it1 g1 t1 e (own.map (·.2)) vs1) :=
  PE.imp (pe_lc2 (own := own) (vs1 := vs1) (g := fun x σ H Q => ∃ p a, liftTg X.K (c.and p a) (· ∈ own.map (·.2)) g x σ H Q) (tt := fun σ H Q => ∃ p a, liftT X.K (c.and p a) noW t σ H Q) (wi1 := fun σ H Q => ∃ p a, liftI X.K (c.and p a) noW it1 σ H Q) (g1 := fun x σ H Q => ∃ p a, liftTg X.K (c.and p a) (· ∈ vs1) g1 x σ H Q) (tt1 := fun σ H Q => ∃ p a, liftT X.K (c.and p a) noW t1 σ H Q) (te := fun σ H Q => ∃ p a, liftE X.K (c.and p a) noW e σ H Q) hc hN hi ok hv
    (fun s H C cl fp => ⟨fun pins s' σ H' v u Q I r ⟨p, a, q⟩ => (hg s H C cl fp (c.and p a) rfl).run pins s' σ H' v u Q I r q⟩)
    (fun s H C cl fp => ⟨fun pins s' σ H' Q I ⟨p, a, q⟩ => (ht s H C cl fp (c.and p a) rfl).run.run pins s' σ H' Q I q⟩)
    (fun s H C cl fp => ⟨fun pins s' σ H' Q I ⟨p, a, q⟩ => (hi1 s H C cl fp (c.and p a) rfl).run pins s' σ H' Q I q⟩)
    (fun s H C cl fp => ⟨fun pins s' σ H' v u Q I r ⟨p, a, q⟩ => (hg1 s H C cl fp (c.and p a) rfl).run pins s' σ H' v u Q I r q⟩)
    (fun s H C cl fp => ⟨fun pins s' σ H' Q I ⟨p, a, q⟩ => (ht1 s H C cl fp (c.and p a) rfl).run.run pins s' σ H' Q I q⟩)
    (fun s H C cl fp => ⟨fun pins s' σ H' Q I ⟨p, a, q⟩ => (he s H C cl fp (c.and p a) rfl).run pins s' σ H' Q I q⟩) hs hs1) fun σ H Q h => lcN_imp hv (fun p a x σ H Q q => ⟨p, a, q⟩) (fun p a σ H Q q => ⟨p, a, q⟩) (fun p a σ H Q q => ⟨p, a, q⟩) (fun p a x σ H Q q => ⟨p, a, q⟩) (fun p a σ H Q q => ⟨p, a, q⟩) (fun p a σ H Q q => ⟨p, a, q⟩) h
theorem ls_lcN (i : Nat) {y : Str} {py spos : Pos} {elt tg iter tg1 iter1 : Expr} {ifs ifs1 : List Expr} {scope : Scope} (own : List (Str × Nat)) (vs1 : List Nat) {pos : Pos} {it it1 : M (List D)} {g g1 : Tg} {t t1 : M Bool} {e : M D} (hc : X.calm = true) (hN : X.N.Nodup) (hsw : swapsWith (.ListComp elt [⟨tg, iter, ifs, 0⟩, ⟨tg1, iter1, ifs1, 0⟩] scope pos) (some (.Name y py)) spos.line X.env = pure true) (hi : LI X c W tg iter it) (ok : BlkOk X.N X.env.scope scope own) (hv : ∀ i ∈ vs1, i ∈ own.map (·.2))
    (hg : ∀ (s : Shared) (H : Hp) (C : Addr) (cl : List (Str × Addr)) (fp : List Addr) (c' : Pk), c'.T = c.T → LG (X.blk s H scope (compEnvC scope cl C X.env) fp) c' (· ∈ own.map (·.2)) tg g)
    (ht : ∀ (s : Shared) (H : Hp) (C : Addr) (cl : List (Str × Addr)) (fp : List Addr) (c' : Pk), c'.T = c.T → LQ (X.blk s H scope (compEnvC scope cl C X.env) fp) c' ifs t)
    (hi1 : ∀ (s : Shared) (H : Hp) (C : Addr) (cl : List (Str × Addr)) (fp : List Addr) (c' : Pk), c'.T = c.T → LI (X.blk s H scope (compEnvC scope cl C X.env) fp) c' noW tg1 iter1 it1)
    (hg1 : ∀ (s : Shared) (H : Hp) (C : Addr) (cl : List (Str × Addr)) (fp : List Addr) (c' : Pk), c'.T = c.T → LG (X.blk s H scope (compEnvC scope cl C X.env) fp) c' (· ∈ vs1) tg1 g1)
    (ht1 : ∀ (s : Shared) (H : Hp) (C : Addr) (cl : List (Str × Addr)) (fp : List Addr) (c' : Pk), c'.T = c.T → LQ (X.blk s H scope (compEnvC scope cl C X.env) fp) c' ifs1 t1)
    (he : ∀ (s : Shared) (H : Hp) (C : Addr) (cl : List (Str × Addr)) (fp : List Addr) (c' : Pk), c'.T = c.T → LE (X.blk s H scope (compEnvC scope cl C X.env) fp) c' noW elt e)
    (hy : X.N[i]? = some y := by rfl) (hyl : X.env.scope.names.lookup y = some .local := by rfl) (hs : ∀ x, foldedSetIterable iter X.env x = pure x := by intro _; rfl) (hs1 : ∀ env x, foldedSetIterable iter1 env x = pure x := by intro _ _; rfl) :
    PS X (.Assign [.Name y py] (.ListComp elt [⟨tg, iter, ifs, 0⟩, ⟨tg1, iter1, ifs1, 0⟩] scope pos) spos) (tAsg (liftF X.K c W (mLcN it g t it1 g1 t1 e (own.map (·.2)) vs1)) (gName i)) :=
  PS.imp (ps_setLc2 (own := own) (vs1 := vs1) (g := fun x σ H Q => ∃ p a, liftTg X.K (c.and p a) (· ∈ own.map (·.2)) g x σ H Q) (tt := fun σ H Q => ∃ p a, liftT X.K (c.and p a) noW t σ H Q) (wi1 := fun σ H Q => ∃ p a, liftI X.K (c.and p a) noW it1 σ H Q) (g1 := fun x σ H Q => ∃ p a, liftTg X.K (c.and p a) (· ∈ vs1) g1 x σ H Q) (tt1 := fun σ H Q => ∃ p a, liftT X.K (c.and p a) noW t1 σ H Q) (te := fun σ H Q => ∃ p a, liftE X.K (c.and p a) noW e σ H Q) hc hN hy hyl hsw hi ok hv
    (fun s H C cl fp => ⟨fun pins s' σ H' v u Q I r ⟨p, a, q⟩ => (hg s H C cl fp (c.and p a) rfl).run pins s' σ H' v u Q I r q⟩)
    (fun s H C cl fp => ⟨fun pins s' σ H' Q I ⟨p, a, q⟩ => (ht s H C cl fp (c.and p a) rfl).run.run pins s' σ H' Q I q⟩)
    (fun s H C cl fp => ⟨fun pins s' σ H' Q I ⟨p, a, q⟩ => (hi1 s H C cl fp (c.and p a) rfl).run pins s' σ H' Q I q⟩)
    (fun s H C cl fp => ⟨fun pins s' σ H' v u Q I r ⟨p, a, q⟩ => (hg1 s H C cl fp (c.and p a) rfl).run pins s' σ H' v u Q I r q⟩)
    (fun s H C cl fp => ⟨fun pins s' σ H' Q I ⟨p, a, q⟩ => (ht1 s H C cl fp (c.and p a) rfl).run.run pins s' σ H' Q I q⟩)
    (fun s H C cl fp => ⟨fun pins s' σ H' Q I ⟨p, a, q⟩ => (he s H C cl fp (c.and p a) rfl).run pins s' σ H' Q I q⟩) hs hs1) fun D σ H h => lcN_imp hv (fun p a x σ H Q q => ⟨p, a, q⟩) (fun p a σ H Q q => ⟨p, a, q⟩) (fun p a σ H Q q => ⟨p, a, q⟩) (fun p a x σ H Q q => ⟨p, a, q⟩) (fun p a σ H Q q => ⟨p, a, q⟩) (fun p a σ H Q q => ⟨p, a, q⟩) h
end
end Lw

set_option Elab.async false
set_option linter.all false
set_option maxRecDepth 100000
set_option maxHeartbeats 4000000
/-! Lw: a module's tuple of texts. -/
namespace Lw
open PySem PySem.Spec PyProof.Rows L2
def tupSB (K : PySem.W.Frag) (x : String) (vs : List String) : Bool := match K.lookup (cAd K x) with
  | some ⟨.type c, none, .seq its _, _⟩ => decide (c = "tuple") && (decide (its.size ≤ sizeLine) && He.relAll (vs.map fun s => V.str (Str.ofString s)) its.toList)
  | _ => false
/-- the module's name x is a tuple of these texts -/
structure TupS (K : PySem.W.Frag) (mg : Str → Option Value) (x : String) (vs : List String) : Prop where
  m : mg (Str.ofString x) = some (.ref (cAd K x))
  s : ∀ H, SqN K H (cAd K x) (vs.map fun s => V.str (Str.ofString s))
theorem tupSB_ok {K : PySem.W.Frag} {x : String} {vs : List String} (h : tupSB K x vs = true) (H : Hp) : SqN K H (cAd K x) (vs.map fun s => V.str (Str.ofString s)) := by
  unfold tupSB at h
  cases q : K.lookup (cAd K x) with
  | none =>
    rw [q] at h
    cases h
  | some o =>
    obtain ⟨oc, od, dt, osl⟩ := o
    rw [q] at h
    cases oc with
    | type c =>
      cases od with
      | none =>
        cases dt with
        | seq its n =>
          obtain ⟨h1, h2⟩ := He.ba (show (decide (c = "tuple") && (decide (its.size ≤ sizeLine) && He.relAll (vs.map fun s => V.str (Str.ofString s)) its.toList)) = true from h)
          obtain ⟨h3, h4⟩ := He.ba h2
          exact .inr ⟨_, its, n, q, congrArg Value.type (of_decide_eq_true h1), rfl, rfl, of_decide_eq_true h3, He.relAll_ok h4⟩
        | _ => cases h
      | some a => cases dt <;> cases h
    | _ => cases od <;> cases dt <;> cases h
theorem DtAll.texts {K : PySem.W.Frag} {l : Lh} : ∀ vs : List String, DtAll K l (vs.map fun s => V.str (Str.ofString s)) (vs.map fun s => D.str (Str.ofString s))
  | [] => .nil
  | v :: vs => .cons (.str _) (DtAll.texts vs)
section
variable {X : Cx} {c : Pk} {W : WX}
theorem le_gtup {x : String} {vs : List String} {pos : Pos} (h : TupS X.K X.mg x vs) (hg : Gl X (Str.ofString x) := by rfl) (hd : ((Str.ofString x) == ("__debug__" : Str)) = false := by decide) : LE X c W (.Name (Str.ofString x) pos) (ret (.tup (vs.map fun s => D.str (Str.ofString s)))) :=
  le_c (v := .ref (cAd X.K x)) (pe_glob hg h.m rfl hd) fun l => .tup (h.s _) (DtAll.texts vs)
end
end Lw

set_option Elab.async false
set_option linter.all false
set_option maxRecDepth 100000
set_option maxHeartbeats 4000000
/-! Lw: a < b < c as a test; tuple(range(a, b, -1)). -/
namespace Lw
open PySem PySem.Spec PyProof.Rows L2
section
variable {X : Cx} {c : Pk} {W : WX}
theorem chain_imp {ma mb md : M D} {f g : D → D → Option D} {r r' : R2} (hs : Sem2 X.K f r) (hs' : Sem2 X.K g r') {σ : L2.St} {H : Hp} {Q : VK} (h : liftE X.K c W (mCh f g ma mb md) σ H Q) : tChain r r' (liftE X.K c W ma) (liftE X.K c W mb) (liftE X.K c W md) σ H Q := by
    obtain ⟨l, S, rp, po⟩ := h
    refine ⟨l, S, rp, Po.bind (R := Dt X.K) po fun x S1 v H1 l1 _ rp1 g1 q1 po1 => ?_⟩
    refine ⟨l1, S1, rp1, Po.bind (R := Dt X.K) po1 fun y S2 w H2 l2 _ rp2 g2 q2 po2 => ?_⟩
    have po2 : Po X.K c W l2 σ (Dt X.K) Q (bnd (opt (f x y)) (fun z => match z with
      | .bl true => bnd md fun w => opt (g y w)
      | .bl false => ret (.bl false)
      | _ => stuck) S2) := po2
    cases e : f x y with
    | none =>
      rw [e] at po2
      exact po2.elim
    | some z =>
      rw [e] at po2
      have po3 : Po X.K c W l2 σ (Dt X.K) Q ((match z with
        | .bl true => bnd md fun w => opt (g y w)
        | .bl false => ret (.bl false)
        | _ => stuck) S2) := po2
      have key : ∀ k, z = .bl k → (if k = true then liftE X.K c W md σ H2 (fun w' H4 => r' w w' H4 Q) else Q (.bl false) H2) := by
        intro k hk
        subst hk
        cases k with
        | true =>
          rw [if_pos rfl]
          refine ⟨l2, S2, rp2, Po.bind (R := Dt X.K) po3 fun u S3 w3 H3 l3 _ rp3 g3 q3 po4 => ?_⟩
          obtain ⟨dd, e4, po5⟩ := Po.opt po4
          exact hs' l3 H3 w w3 y u dd Q rp3.rt.lh (.inl (q2.grow g3)) (.inl q3) e4 (po5.give rp3)
        | false =>
          rw [if_neg Bool.false_ne_true]
          exact po3 _ H2 l2 rp2 (Gr.refl _) (.bl false)
      have hb : ∃ k, z = .bl k := by
        cases z with
        | bl k => exact ⟨k, rfl⟩
        | _ => exact po3.elim
      obtain ⟨k, hk⟩ := hb
      refine hs l2 H2 v w x y z _ rp2.rt.lh (.inl (q1.grow g2)) (.inl q2) e ⟨fun u hu => ?_, fun p o hp no hu => ?_⟩
      · subst hk
        cases hu
        exact ⟨k, rfl, key k rfl⟩
      · subst hk
        cases hu

theorem lt_chain {op op' : CmpOp} {a b d : Expr} {ma mb md : M D} {pos : Pos} {f g : D → D → Option D} {r r' : R2} (ho : OpR X (compareOp op) r) (ho' : OpR X (compareOp op') r') (hs : Sem2 X.K f r) (hs' : Sem2 X.K g r') (ha : LE X c W a ma) (hb : LE X c W b mb) (hd : LE X c W d md) (hm : lastMarks [op, op'] [b, d] = false := by rfl) :
    LT X c W (.Compare a [op, op'] [b, d] pos) (tB (mCh f g ma mb md)) :=
  PT.imp (pt_chain ho ho' ha hb hd hm) fun σ H Q ⟨l, S, rp, po⟩ => by
    refine chain_imp hs hs' ⟨l, S, rp, Po.bind (R := Dt X.K) po fun x S1 v H1 l1 _ rp1 g1 q1 po1 => ?_⟩
    obtain ⟨b, e, po2⟩ := Po.opt po1
    cases x with
    | bl k =>
      cases q1
      cases e
      exact ⟨_, rfl, po2 _ H1 l1 rp1 (Gr.refl _) rfl⟩
    | _ => cases e
theorem le_tupRg3 {a b d : Expr} {m : M (List D)} {p p2 pos pos2 : Pos} (hc : X.calm = true) (hml : X.mg "tuple" = none) (hm : X.mg "range" = none) (ha : LA X c W [a, b, d] m) (hgl : Gl X "tuple" := by rfl) (hg : Gl X "range" := by rfl)
    (na : starEach [.Call (.Name "range" p2) [a, b, d] [] pos2] X.env = (false, eval (.Call (.Name "range" p2) [a, b, d] [] pos2) X.env) :: starEach [] X.env := by rfl) (hs : starEach [a, b, d] X.env = (false, eval a X.env) :: starEach [b, d] X.env := by rfl) (hpl : (backTo pos2 (starEach [b, d] X.env)).any (·.1) = false := by rfl) :
    LE X c W (.Call (.Name "tuple" p) [.Call (.Name "range" p2) [a, b, d] [] pos2] [] pos) (mTup (mRg3 m)) := by
  refine ⟨fun pins s σ H Q I h => ?_⟩
  obtain ⟨l, S, rp, po⟩ := h
  have h0 : liftA X.K c W 3 m σ H fun vs H1 => ∃ u v l1 S1, vs = [.int u, .int v, .int (-1)] ∧ rgDOk u v = true ∧ Rep X.K c l1 S1 σ H1 ∧ Gr l l1 ∧ Po X.K c W l1 σ (Dt X.K) Q (.ok (.tup (rgD u v)) S1) := by
    refine ⟨l, S, rp, ?_⟩
    unfold mTup at po
    have po : Po X.K c W l σ (Dt X.K) Q (bnd m (fun ds => bnd (opt (iRg3 ds)) fun xs => ret (.tup xs)) S) := by
      have e : bnd (mRg3 m) (fun xs => ret (D.tup xs)) S = bnd m (fun ds => bnd (opt (iRg3 ds)) fun xs => ret (D.tup xs)) S := by
        unfold mRg3 bnd
        cases m S <;> rfl
      rw [← e]
      exact po
    cases em : m S with
    | no =>
      rw [bnd_no em] at po
      exact po
    | er y S1 =>
      rw [bnd_er em] at po
      exact po
    | ok ds S1 =>
      rw [bnd_ok em] at po
      intro vs H1 l1 rp1 g1 ⟨da, _⟩
      cases ez : iRg3 ds with
      | none =>
        rw [ez] at po
        exact po.elim
      | some zs =>
        rw [ez] at po
        obtain ⟨u, v, rfl, ok, rfl⟩ := iRg3_some ez
        cases da with
        | cons d1 da =>
          cases da with
          | cons d2 da =>
            cases da with
            | cons d3 da =>
              cases da
              cases d1
              cases d2
              cases d3
              exact ⟨u, v, l1, S1, rfl, ok, rp1, g1, fun v' H' l' rp' g' dt => po v' H' l' rp' (g1.trans g') dt⟩
  refine Call_ (ld_blt I hgl hml boot_tuple (PyProof.Rows.callWith_type1 (args_cons (Call_ (ld_blt I hg hm boot_range (PyProof.Rows.callWith_type1 (thn (PA.run ha pos2 pins s σ H _ I h0) fun us s1 ⟨vs, H1, I1, r1, u, v, l1, S1, ev, ok, rp1, g1, rf⟩ => ?_) hs hpl))) na) na))
  subst ev
  obtain ⟨⟨c0, c1, c2, c3⟩, k2⟩ := rgDOk_c ok
  cases r1 with
  | cons r rr =>
    cases rr with
    | cons r' rr =>
      cases rr with
      | cons r'' rr =>
        cases rr
        obtain ⟨t, rfl⟩ := r
        obtain ⟨t', rfl⟩ := r'
        obtain ⟨t'', rfl⟩ := r''
        refine call_range_3 c0 ?_ (.inl (PyProof.noPylong_small c1))
        have I2 : Inv X pins σ H1 { s1 with heap := s1.heap.push { cls := .type "range", data := .fields #[.int u t, .int v t', .int (-1) t''] } } := I1.kept (t' := s1.toks) fun b o e => Heap.get?_push_of_some _ e
        refine args_nil ?_
        refine call_tuple_range (n := (u - v).toNat) (I2.ok.hd hc) (IsRange.new _ _ _ _ _ _ _) c2 c3 (by have : line = 16777216 := rfl; omega) fun h' tk acc hk hi => ?_
        have I3 : Inv X pins σ H1 { s1 with heap := h', toks := tk } := I2.kept hk
        have I4 := lay_tup I3 (vals_rgD hi) (by
          rw [List.length_map, sizeLine_eq]
          have : (rgD u v).length = (u - v).toNat := by simp [rgD]
          rw [this]
          exact k2)
        rw [Array.toArray_toList] at I4
        have hq := I3.hok.fresh (Nat.le_refl _)
        obtain ⟨rp2, g2⟩ := rp1.lay (o := .frz ⟨.type "tuple", none, .seq acc 0, #[]⟩ (.tup ((rgD u v).map fun d => match d with | .int i => V.int i | _ => .non))) hq (fun _ z => nomatch z)
        exact ⟨.ref h'.objs.size, _, I4, rfl, rf _ _ _ rp2 g2 (.tup (SqN.of upd_same rfl) (rgD_dt u v))⟩
end
end Lw

set_option Elab.async false
set_option linter.all false
set_option maxRecDepth 100000
set_option maxHeartbeats 4000000
/-! Lw: isinstance(x, (list, tuple)), x an instance with slots too; dict.get, dict[k]. -/
namespace Lw
open PySem PySem.Spec PyProof.Rows L2
def dIsT2X (cls : List String) (t u : String) : D → Option D
  | .obj c _ => if cls.contains c then some (.bl false) else none
  | d => dIsT2 t u d
section
variable {X : Cx} {c : Pk} {W : WX}
def rIsiST (K : PySem.W.Frag) : List V → Hp → VK → Prop := fun xs H Q => ∃ (a C dx tp : Addr) (vs : List (Option V)) (t u : String), xs = [V.ref a, .ref tp] ∧ H tp = some (.tup [.ty t, .ty u]) ∧ SlX.Slt H a C dx vs ∧ SlX.SCls K C ∧ SlX.SIsi K C ∧ PySem.W.kitOne K (.ref C) (.type t) = some false ∧ PySem.W.kitOne K (.ref C) (.type u) = some false ∧ Q (.bl false) H
theorem call_isiST : CallR X (.builtin "isinstance") (rIsiST X.K) := by
  intro pins s σ H xs us Q I r h
  obtain ⟨a, C, dx, tp, vs, t, u, rfl, hT, hsl, hc, hi, h1, h2, q⟩ := h
  obtain ⟨u1, u2, rfl, r1, r2⟩ := r.two
  cases (show u1 = Value.ref a from r1)
  cases (show u2 = Value.ref tp from r2)
  obtain ⟨sl, od, _, J, _⟩ := SlX.slt_inst I hsl
  obtain ⟨_, its, rv, o, k1, k2, n, k3⟩ := (show ObjOk X.prog X.w H s.heap tp (.tup [.ty t, .ty u]) from I.hok tp _ hT)
  have e3 := ClsV.all (.cons (.ty t) (.cons (.ty u) .nil)) rv
  subst e3
  obtain ⟨oc, od', dt, sl'⟩ := o
  simp only at k2 k3
  subst k2 k3
  exact PySem.W.kia_tup (OwX.kitx_slt hc.ic (hc.get _) hi.ca hi.cn hi.ct hi.cm) I.kIn J k1 (kitAny_cons h1 (fun _ => kitAny_cons h2 (fun _ => rfl) (fun z => nomatch z)) (fun z => nomatch z)) (fun z => nomatch z) fun tk => ⟨.bl false, H, I.tok _, rfl, q⟩
theorem call_isiT2 : CallR X (.builtin "isinstance") (fun xs H Q => rIsiT X.K xs H Q ∨ rIsiST X.K xs H Q) := fun pins s σ H xs us Q I r h => h.elim (fun h => call_isiT pins s σ H xs us Q I r h) fun h => call_isiST pins s σ H xs us Q I r h
theorem le_isT2X {cls : List String} {e : Expr} {o : Opd} {x y : Str} {t u : String} {p q r s pos : Pos} {k} (hA : ∀ d ∈ cls, SlX.SCls X.K (cAd X.K d) ∧ SlX.SIsi X.K (cAd X.K d) ∧ ∀ t ∈ tyNames, PySem.W.kitOne X.K (.ref (cAd X.K d)) (.type t) = some false) (ht : t ∈ tyNames) (hu : u ∈ tyNames) (ha : askable t = true) (hb : askable u = true) (hm : X.mg "isinstance" = none) (hx : X.mg x = none) (hy : X.mg y = none) (h : LO X c W e o) (hv : bootBuiltins x = some (.type t) := by decide +kernel) (hw : bootBuiltins y = some (.type u) := by decide +kernel)
    (hg : Gl X "isinstance" := by rfl) (hgx : Gl X x := by rfl) (hgy : Gl X y := by rfl) (hn : x ≠ "__name__" := by decide) (hd : (x == ("__debug__" : Str)) = false := by decide) (hn2 : y ≠ "__name__" := by decide) (hd2 : (y == ("__debug__" : Str)) = false := by decide)
    (hs : starEach [e, .Tuple [.Name x q, .Name y r] k s] X.env = (false, eval e X.env) :: starEach [.Tuple [.Name x q, .Name y r] k s] X.env := by rfl) (hs2 : starEach [.Tuple [.Name x q, .Name y r] k s] X.env = (false, eval (.Tuple [.Name x q, .Name y r] k s) X.env) :: starEach [] X.env := by rfl)
    (hs3 : starEach [.Name x q, .Name y r] X.env = (false, eval (.Name x q) X.env) :: starEach [.Name y r] X.env := by rfl) (hs4 : starEach [.Name y r] X.env = (false, eval (.Name y r) X.env) :: starEach [] X.env := by rfl)
    (hpl : (backTo pos (starEach [.Tuple [.Name x q, .Name y r] k s] X.env)).any (·.1) = false := by rfl) : LE X c W (.Call (.Name "isinstance" p) [e, .Tuple [.Name x q, .Name y r] k s] [] pos) (m1 (dIsT2X cls t u) o) :=
  PE.imp (pe_callB call_isiT2 hg hm boot_isinstance (pa_cons h (pa_cons (pe_tup (pa_cons (pe_bltn (v := .ty t) hgx hx hv rfl hn hd) (pa_cons (pe_bltn (v := .ty u) hgy hy hw rfl hn2 hd2) pa_nil hs4) hs3)) pa_nil hs2) hs) (he := hs) (hpl := hpl)) fun σ H Q ⟨l, S, rp, po⟩ => by
    refine ⟨l, S, rp, Po.bind (R := RO X.K σ o) po fun y S1 v H1 l1 _ rp1 g1 q1 po1 => ?_⟩
    refine ⟨by show 2 ≤ sizeLine; decide, fun T hT => ?_⟩
    have lay := rp1.lay (o := .tup [.ty t, .ty u]) hT nt_tup
    have po1 := Po.grow lay.2 po1
    obtain ⟨d, rv, po2⟩ := Po.rd lay.1 (Gr.refl _) (q1.grow lay.2) po1
    obtain ⟨z, ez, po3⟩ := Po.opt po2
    have plain : dIsT2 t u d = some z → rIsiT X.K [v, .ref T] (upd H1 T (.tup [.ty t, .ty u])) Q ∨ rIsiST X.K [v, .ref T] (upd H1 T (.tup [.ty t, .ty u])) Q := fun ez => by
      unfold dIsT2 at ez
      cases et : tyD d with
      | none =>
        rw [et] at ez
        cases ez
      | some a =>
        rw [et] at ez
        cases ez
        refine .inl ⟨v, T, [.ty t, .ty u], .type a, [.type t, .type u], subT a t || subT a u, rfl, upd_same, .cons (.ty t) (.cons (.ty u) .nil), tyX_of lay.1.rt.lh rv et, ?_, po3 _ _ _ lay.1 (Gr.refl _) (.bl _)⟩
        refine kitAny_cons (kit_ty (kit_of_ask ha et)) (fun h1 => ?_) (fun h1 => by rw [h1]; rfl)
        rw [h1]
        exact kitAny_cons (kit_ty (kit_of_ask hb et)) (fun h2 => by rw [h2]; rfl) (fun h2 => by rw [h2]; rfl)
    cases d with
    | obj c' ds =>
      have ez : (if cls.contains c' then some (D.bl false) else none) = some z := ez
      by_cases hc : cls.contains c' = true
      · rw [if_pos hc] at ez
        cases ez
        obtain ⟨a, dx, vs, rfl, ha', hdx, hds⟩ := obj_ref rv
        obtain ⟨A1, A2, A3⟩ := hA c' (by simpa using hc)
        exact .inr ⟨a, _, dx, T, vs.map some, t, u, rfl, upd_same, .inr ⟨lay.1.rt.lh _ _ ha', lay.1.rt.lh _ _ hdx⟩, A1, A2, A3 t ht, A3 u hu, po3 _ _ _ lay.1 (Gr.refl _) (.bl _)⟩
      · rw [if_neg hc] at ez
        cases ez
    | _ => exact plain ez
end
end Lw

set_option Elab.async false
set_option linter.all false
set_option maxRecDepth 100000
set_option maxHeartbeats 4000000
/-! Lw: d[k], d.get(k, x), d a dict that is a value. -/
namespace Lw
open PySem PySem.Spec PyProof.Rows L2
def keyD : D → Option Key
  | .int i => some (.inl i)
  | .str x => some (.inr x)
  | _ => none
def lkD : List (D × D) → Key → Option D
  | [], _ => none
  | (k, v) :: r, q => if keyD k = some q then some v else lkD r q
theorem key_dt {K : PySem.W.Frag} {l : Lh} {q : Key} {k : D} (h : Dt K l (kV q) k) : keyD k = some q := by
  cases q with
  | inl i =>
    cases h
    rfl
  | inr x =>
    cases h
    rfl
theorem dt_key {K : PySem.W.Frag} {l : Lh} {q : Key} {v : V} {k : D} (h : Dt K l v k) (e : keyD k = some q) : v = kV q := by
  cases k with
  | int i =>
    cases h
    cases e
    rfl
  | str x =>
    cases h
    cases e
    rfl
  | _ => cases e
theorem valV_dt {K : PySem.W.Frag} {l : Lh} {q : Key} : ∀ {kvs : List (Key × V)} {ks ds : List D}, DtAll K l (kvs.map fun kv => kV kv.1) ks → DtAll K l (kvs.map (·.2)) ds → (∀ d, lkD (ks.zip ds) q = some d → ∃ v, valV kvs q = some v ∧ Dt K l v d) ∧ (lkD (ks.zip ds) q = none → valV kvs q = none)
  | [], _, _, .nil, .nil => ⟨fun d e => (by cases e), fun _ => rfl⟩
  | kv :: kvs, _, _, .cons (d := k) (ds := ks) h1 h2, .cons (d := d) (ds := ds) h3 h4 => by
    obtain ⟨i1, i2⟩ := valV_dt (q := q) h2 h4
    have e1 := key_dt h1
    have ev : valV (kv :: kvs) q = if kv.1 = q then some kv.2 else valV kvs q := by
      unfold valV
      rw [List.find?_cons]
      by_cases h : kv.1 = q
      · simp [h]
      · simp [h]
    have el : lkD ((k :: ks).zip (d :: ds)) q = if kv.1 = q then some d else lkD (ks.zip ds) q := by
      show (if keyD k = some q then some d else lkD (ks.zip ds) q) = _
      rw [e1]
      by_cases h : kv.1 = q
      · rw [if_pos h, if_pos (by rw [h])]
      · rw [if_neg h, if_neg (fun z => h (Option.some.inj z))]
    rw [ev, el]
    by_cases h : kv.1 = q
    · rw [if_pos h, if_pos h]
      exact ⟨fun x e => by cases e; exact ⟨_, rfl, h3⟩, fun e => by cases e⟩
    · rw [if_neg h, if_neg h]
      exact ⟨i1, i2⟩
def dGetI (a k : D) : Option D := match a with
  | .dct kvs => (keyD k).bind (lkD kvs)
  | _ => none
def dGetX (a k z : D) : Option D := match a with
  | .dct kvs => (keyD k).map fun q => (lkD kvs q).getD z
  | _ => none
def mGetI (o k : M D) : M D := bnd o fun a => bnd k fun z => opt (dGetI a z)
def mGetX (o k z : M D) : M D := bnd o fun a => (match a with
  | .dct _ => bnd k fun y => bnd z fun x => opt (dGetX a y x)
  | _ => stuck)
section
variable {X : Cx} {c : Pk} {W : WX}
theorem le_dgetI {o i : Expr} {mo mi : M D} {pos : Pos} (hu : X.A.units + 1 < cLine) (ho : LE X c W o mo) (hi : LE X c W i mi) (hs : NoSl i := by exact fun _ _ => rfl) : LE X c W (.Subscript o i pos) (mGetI mo mi) :=
  PE.imp (pe_dget hu ho hi hs) fun σ H Q ⟨l, S, rp, po⟩ => by
    refine ⟨l, S, rp, Po.bind (R := Dt X.K) po fun a S1 v H1 l1 _ rp1 g1 q1 po1 => ?_⟩
    refine ⟨l1, S1, rp1, Po.bind (R := Dt X.K) po1 fun z S2 w H2 l2 _ rp2 g2 q2 po2 => ?_⟩
    obtain ⟨d, ed, po3⟩ := Po.opt po2
    cases a with
    | dct kvs =>
      have ed : (keyD z).bind (lkD kvs) = some d := ed
      obtain ⟨q, eq, ed⟩ := Option.bind_eq_some_iff.mp ed
      have q1 := q1.grow g2
      cases q1 with
      | dct h e r r' =>
        subst e
        obtain ⟨u, e1, e2⟩ := (valV_dt (q := q) r r').1 d ed
        exact ⟨_, u, rfl, .inl ⟨_, q, .inl (rp2.rt.lh _ _ h), dt_key q2 eq, e1.symm⟩, po3 u H2 l2 rp2 (Gr.refl _) e2⟩
    | _ => cases ed
theorem le_dgetX {o e f : Expr} {mo me mf : M D} {apos cpos : Pos} (hu : X.A.units + 1 < cLine) (ho : LE X c W o mo) (he : LE X c W e me) (hf : LE X c W f mf) (m : M2 X o "get" apos e f cpos := by exact ⟨rfl, rfl, rfl, rfl⟩) : LE X c W (.Call (.Attribute o "get" apos) [e, f] [] cpos) (mGetX mo me mf) :=
  PE.imp (pe_dget2 hu ho he hf m) fun σ H Q ⟨l, S, rp, po⟩ => by
    refine ⟨l, S, rp, Po.bind (R := Dt X.K) po fun a S1 v H1 l1 _ rp1 g1 q1 po1 => ?_⟩
    cases a with
    | dct kvs =>
      have po1 : Po X.K c W l1 σ (Dt X.K) Q (bnd me (fun y => bnd mf fun x => opt (dGetX (.dct kvs) y x)) S1) := po1
      cases q1 with
      | dct h e r r' =>
        subst e
        refine ⟨_, rfl, .inl ⟨_, .inl (rp1.rt.lh _ _ h)⟩, l1, S1, rp1, Po.bind (R := Dt X.K) po1 fun z S2 w H2 l2 _ rp2 g2 q2 po2 => ?_⟩
        refine ⟨l2, S2, rp2, Po.bind (R := Dt X.K) po2 fun x S3 y H3 l3 _ rp3 g3 q3 po3 => ?_⟩
        obtain ⟨d, ed, po4⟩ := Po.opt po3
        have ed : (keyD z).map (fun q => (lkD _ q).getD x) = some d := ed
        obtain ⟨q, eq, ed⟩ := Option.map_eq_some_iff.mp ed
        have hv := valV_dt (q := q) (r.grow (g2.trans g3)) (r'.grow (g2.trans g3))
        refine ⟨_, .inl ⟨_, q, .inl (rp3.rt.lh _ _ ((g2.trans g3).1 _ _ h)), dt_key q2 eq, rfl⟩, ?_⟩
        cases el : lkD (_ : List (D × D)) q with
        | none =>
          rw [el] at ed
          rw [hv.2 el]
          subst ed
          exact po4 y H3 l3 rp3 (Gr.refl _) q3
        | some d' =>
          rw [el] at ed
          obtain ⟨u, e1, e2⟩ := hv.1 d' el
          rw [e1]
          subst ed
          exact po4 u H3 l3 rp3 (Gr.refl _) e2
    | _ => exact po1.elim
end
end Lw


set_option Elab.async false
set_option linter.all false
set_option maxRecDepth 100000
set_option maxHeartbeats 4000000
/-! the defs of law_k17_rows_of_moves: mirrors and walks (printed by gen.py) -/
namespace Lw
open PySem PySem.Spec PyProof.Rows L2
def top (i : Nat) : Stmt := PySem.Challenge.pw_liftwords_k17_rows_of_moves.main.body.getD i (.Pass ⟨0, 0, 0, 0⟩)
def cls1 (s : Stmt) (j : Nat) : Stmt := match s with | .ClassDef _ _ _ b _ _ _ _ _ _ _ => b.getD j (.Pass ⟨0, 0, 0, 0⟩) | _ => .Pass ⟨0, 0, 0, 0⟩
def slots : List (String × List String) := [("Word", ["letters", "size"])]
def clsN : List String := ["Word"]
def excs : List String := ["BadSize", "BadLetters", "BadIndex", "BadNumber", "BadDeed", "BadTable", "BadMove", "BadShape", "OtherSize", "OtherHouse", "Stuck", "TooGreat", "BadRecording"]
theorem units1 {k : Nat} {A : Around} (r : Room k A) : A.units + 65 < cLine := by have := r.un; omega
theorem units_1 {k : Nat} {A : Around} (r : Room k A) : A.units + 1 < cLine := by have := r.un; omega
structure Gs (P : Program) (K : PySem.W.Frag) (mg : Str → Option Value) (base : Heap) : Prop where
  tp : NoTP base
  c_MOST_LETTERS : ∃ t, mg "MOST_LETTERS" = some (.int 40 t)
  c_MOST_SIZE : ∃ t, mg "MOST_SIZE" = some (.int 6 t)
  m_ValueError : mg "ValueError" = none
  m_bool : mg "bool" = none
  m_enumerate : mg "enumerate" = none
  m_int : mg "int" = none
  m_isinstance : mg "isinstance" = none
  m_len : mg "len" = none
  m_list : mg "list" = none
  m_range : mg "range" = none
  m_repr : mg "repr" = none
  m_reversed : mg "reversed" = none
  m_str : mg "str" = none
  m_tuple : mg "tuple" = none
  m_zip : mg "zip" = none
  t_KINDS : TupS K mg "KINDS" ["first", "last", "out", "in"]
  x_BadLetters : HasEx P K mg "BadLetters"
  x_BadMove : HasEx P K mg "BadMove"
  x_BadSize : HasEx P K mg "BadSize"
  x_TooGreat : HasEx P K mg "TooGreat"
  neO : ∀ cn ∈ clsN, PySem.W.findIn K (.ref (cAd K cn)) "__ne__" = some (some (.builtin "object.__ne__"))
  slC : ∀ p ∈ slots, ClO K p.1 p.2
  isC : ∀ cn ∈ clsN, ∀ d ∈ clsN, SlX.SCls K (cAd K d) ∧ SlX.SIsi K (cAd K d) ∧ PySem.W.kitOne K (.ref (cAd K d)) (.ref (cAd K cn)) = some (d == cn)
  isL : ∀ cn ∈ clsN, SlX.SCls K (cAd K cn) ∧ SlX.SIsi K (cAd K cn) ∧ ∀ t ∈ tyNames, PySem.W.kitOne K (.ref (cAd K cn)) (.type t) = some false
  isB : ∀ cn ∈ clsN, ∀ t ∈ tyNames, PySem.W.kitOne K (.type t) (.ref (cAd K cn)) = some false
  gC : ∀ cn ∈ clsN, mg (Str.ofString cn) = some (.ref (cAd K cn))
  exA : ∀ cn ∈ excs, ExA K cn
  isX : ∀ x ∈ excs, ∀ cn ∈ excs, ExA K cn ∧ PySem.W.kitOne K (.ref (cAd K cn)) (.ref (cAd K x)) = some (cn == x)
  gX : ∀ x ∈ excs, mg (Str.ofString x) = some (.ref (cAd K x))
  isV : ∀ cn ∈ excs, ExA K cn ∧ PySem.W.kitOne K (.ref (cAd K cn)) (.type "ValueError") = some (isVal cn)
  gL : mg "LiftError" = some (.ref (cAd K "LiftError"))
  gS : mg "Stuck" = some (.ref (cAd K "Stuck"))
  gT : mg "TooGreat" = some (.ref (cAd K "TooGreat"))
  cat : ∀ cn ∈ excs, PySem.W.exmAny K (.ref (cAd K cn)) [.ref (cAd K "LiftError"), .ref (cAd K "Stuck"), .ref (cAd K "TooGreat")] = some true
section
variable {P : Program} {w : World} {K : PySem.W.Frag} {mg : Str → Option Value} {base : Heap} {T : List (Addr × Str)}
theorem sc__law_folded : FnScope ["script", "found", "n", "cell"] ["script"] (defScope (top 36)) := ⟨rfl, rfl, rfl, by decide +kernel, rfl, by decide +kernel, by decide +kernel⟩
theorem ok__law_folded (G : Gs P K mg base) {f : Addr} {fd : FuncData} (F : FunD K "_law_folded" "_law_folded" (defArgs (top 36)) (defBody (top 36)) (defScope (top 36)) [] [] f fd) : FnN P w K mg base T 1 f :=
  okN F sc__law_folded rfl (fun _ _ _ _ _ _ us hl => match us, hl with | [_], _ => rfl) (fun cdv A outer s H E c eT gd hr => by
    have hN := sc__law_folded.nd
    exact pss_cons (ls_ownF (ls_lc 1 [("n", 2)] rfl hN rfl (li_rg1 G.m_range (le_int)) (blkOk_by rfl) (fun _ _ _ _ _ c1 e1 => lg_v 2 hN (hvs := by decide)) (fun _ _ _ _ _ c1 e1 => lq_nil) (fun _ _ _ _ _ c1 e1 => le_add (lo_v (le_int)) (lo_n 2)))) (pss_cons (ls_for (passes_of rfl) rfl (li_enum G.m_enumerate (le_v 0)) (lg_t rfl (lgs_cons (lg_v 2 hN) (lgs_cons (lg_v 3 hN) (lgs_nil)))) (lb_one (ls_asg (le_md (lo_v (le_int1 G.m_int (lo_v (le_add (lo_v (le_mul (lo_v (le_ix (lo_n 1) (lo_v (le_md (lo_v (le_int1 G.m_int (lo_n 2))) (lo_v (le_int)))))) (lo_v (le_int)))) (lo_n 3))))) (lo_v (le_int))) (lg_ix 1 (le_md (lo_v (le_int1 G.m_int (lo_n 2))) (lo_v (le_int))))))) (pss_cons (ls_for (passes_of rfl) rfl (li_rg2 G.m_range (le_int) (le_int)) (lg_v 2 hN) (lb_one (ls_asg (le_md (lo_v (le_int1 G.m_int (lo_v (le_add (lo_v (le_ix (lo_n 1) (lo_n 2))) (lo_v (le_mul (lo_v (le_ix (lo_n 1) (lo_v (le_sub (lo_n 2) (lo_v (le_int)))))) (lo_v (le_int)))))))) (lo_v (le_int))) (lg_ix 1 (le_v 2))))) (pss_one (ps_ret (pv 1))))))
theorem sc__law_begun : FnScope ["script", "m", "cell"] ["script"] (defScope (top 38)) := ⟨rfl, rfl, rfl, by decide +kernel, rfl, by decide +kernel, by decide +kernel⟩
theorem ok__law_begun (G : Gs P K mg base) {f g : Addr} {fd : FuncData} (F : FunD K "_law_begun" "_law_begun" (defArgs (top 38)) (defBody (top 38)) (defScope (top 38)) [] [] f fd) (FN : FnN P w K mg base T 1 g) (hm : mg "_law_folded" = some (.ref g)) (hk : PySem.W.keepIn K (.ref g) = true) : FnG P w K mg base T 2 f 1 f__law_begun :=
  okB F sc__law_begun rfl (fun _ _ _ _ _ _ us hl => match us, hl with | [_], _ => rfl) (fun cdv A outer s H E gd hr => by
    have hN := sc__law_begun.nd
    exact pss_cons (ps_set (i := 1) hN rfl (Or.inl rfl) (pe_disp (pps_cons pe_str (pe_fold FN hm hk hr gd rfl (Or.inl rfl)) (pps_cons pe_str (pe_lst pa_nil) (pps_cons pe_str pe_int pps_nil))) rfl rfl (fun z => nomatch z) (by decide)))
      (pss_cons (ps_dput (units_1 hr) (pv 1) pe_str ⟨fun pins s σ H Q I ⟨c, eT, h⟩ => PE.run (show LF _ c noW _ mGr from lf_lc [("cell", 2)] rfl hN (li_seq (le_v 0)) (blkOk_by rfl) (fun _ _ _ _ _ c1 e1 => lg_v 2 hN (hvs := by decide)) (fun _ _ _ _ _ c1 e1 => lq_nil) (fun _ _ _ _ _ c1 e1 => le_if (lt_cmp op_ge sm_ge (nomark _) (lo_n 2) (lo_v (le_pw (lo_v (le_int)) (lo_v (le_int))))) (le_v 2) (le_int))) pins s σ H Q I h⟩ rfl) (pss_one (ps_ret (pv 1)))))
/-! _law_mixed -/
theorem sc__law_mixed : FnScope ["cell", "n", "blend"] ["cell", "n"] (defScope (top 35)) := ⟨rfl, rfl, rfl, by decide +kernel, rfl, by decide +kernel, by decide +kernel⟩
theorem ok__law_mixed (G : Gs P K mg base) {f : Addr} {fd : FuncData} (F : FunD K "_law_mixed" "_law_mixed" (defArgs (top 35)) (defBody (top 35)) (defScope (top 35)) [] [] f fd) : FnG P w K mg base T 1 f 2 f__law_mixed :=
  okM F sc__law_mixed (fun _ _ _ _ _ _ us hl => match us, hl with | [_, _], _ => rfl) (fun cdv A outer s H E c eT gd hr => by
    have hN := sc__law_mixed.nd
    exact lb_cons (ls_set 2 hN (le_add (lo_v (le_add (lo_v (le_md (lo_v (le_int1 G.m_int (lo_v (le_mul (lo_v (le_mul (lo_n 0) (lo_v (le_add (lo_v (le_int)) (lo_v (le_mul (lo_v (le_int)) (lo_n 1))))))) (lo_v (le_int)))))) (lo_v (le_int)))) (lo_v (le_mul (lo_v (le_mul (lo_v (le_int)) (lo_n 1))) (lo_n 1))))) (lo_v (le_mul (lo_v (le_int)) (lo_n 1))))) (lb_one (ls_ret (le_fd (lo_v (le_md (lo_v (le_int1 G.m_int (lo_v (le_mul (lo_n 2) (lo_v (le_int)))))) (lo_v (le_int)))) (lo_v (le_int))))))
/-! _law_draw -/
theorem sc__law_draw : FnScope ["m", "limit", "n", "lot", "here", "cell"] ["m", "limit"] (defScope (top 37)) := ⟨rfl, rfl, rfl, by decide +kernel, rfl, by decide +kernel, by decide +kernel⟩
theorem ok__law_draw (G : Gs P K mg base) {f : Addr} {fd : FuncData} (F : FunD K "_law_draw" "_law_draw" (defArgs (top 37)) (defBody (top 37)) (defScope (top 37)) [] [] f fd) (F__law_mixed : FnM P w K mg base T 1 "_law_mixed" 2 f__law_mixed) : FnG P w K mg base T 2 f 2 f__law_draw :=
  okM F sc__law_draw (fun _ _ _ _ _ _ us hl => match us, hl with | [_, _], _ => rfl) (fun cdv A outer s H E c eT gd hr => by
    have hN := sc__law_draw.nd
    exact lb_cons (ls_set 2 hN (le_spot 0 hr.units)) (lb_cons (ls_spot 0 hr.units (le_add (lo_n 2) (lo_v (le_int))) rfl (Or.inl rfl)) (lb_cons (ls_if (lt_great 0 hr.units rfl (Or.inl rfl)) (lb_cons (ls_lot 2 0 3 (key := "great") (Or.inr ⟨rfl, rfl⟩) hr.units hN rfl (Or.inl rfl) rfl rfl) (lb_cons (ls_set 4 hN (le_md (lo_v (le_int1 G.m_int (lo_n 2))) (lo_v (le_lotLen 3 G.m_len rfl (Or.inl rfl))))) (lb_cons (ls_set 5 hN (le_lotIx 3 (le_v 4) rfl (Or.inl rfl))) (lb_one (ls_if (lt_cmp op_gt sm_gt (nomark _) (lo_n 5) (lo_v (le_int))) (lb_cons (ls_lotSet 3 (le_v 4) (le_fd (lo_n 5) (lo_n 1)) rfl (Or.inl rfl)) (lb_one (ls_ret (le_md (lo_v (le_int1 G.m_int (lo_n 5))) (lo_n 1))))) (lb_nil)))))) (lb_nil)) (lb_cons (ls_lot 1 0 3 (key := "cells") (Or.inl ⟨rfl, rfl⟩) hr.units hN rfl (Or.inl rfl) rfl rfl) (lb_one (ls_ret (le_md (lo_v (le_int1 G.m_int (lo_v (le_call (F__law_mixed.cast eT) (hr.mono (by decide)) gd (takes_of rfl rfl rfl rfl) (la_cons (le_call (F__law_mixed.cast eT) (hr.mono (by decide)) gd (takes_of rfl rfl rfl rfl) (la_cons (le_add (lo_v (le_lotIx 3 (le_md (lo_v (le_int1 G.m_int (lo_n 2))) (lo_v (le_int))) rfl (Or.inl rfl))) (lo_v (le_mul (lo_v (le_int)) (lo_v (le_fd (lo_n 2) (lo_v (le_int))))))) (la_cons (le_v 2) (la_nil)))) (la_cons (le_add (lo_n 2) (lo_v (le_int))) (la_nil))))))) (lo_n 1))))))))
/-! _law_size -/
def b__law_size : M Fl := sRet (m2 dAdd (.v (ret (.int 2))) (.v (mCall f__law_draw (aCons (mV 0) (aCons (ret (.int 5)) (aNil))))))
def f__law_size : Fn := fnOf 1 1 b__law_size
theorem sc__law_size : FnScope ["m"] ["m"] (defScope (top 39)) := ⟨rfl, rfl, rfl, by decide +kernel, rfl, by decide +kernel, by decide +kernel⟩
theorem ok__law_size (G : Gs P K mg base) {f : Addr} {fd : FuncData} (F : FunD K "_law_size" "_law_size" (defArgs (top 39)) (defBody (top 39)) (defScope (top 39)) [] [] f fd) (F__law_draw : FnM P w K mg base T 2 "_law_draw" 2 f__law_draw) : FnG P w K mg base T 3 f 1 f__law_size :=
  okM F sc__law_size (fun _ _ _ _ _ _ us hl => match us, hl with | [_], _ => rfl) (fun cdv A outer s H E c eT gd hr => by
    have hN := sc__law_size.nd
    exact lb_one (ls_ret (le_add (lo_v (le_int)) (lo_v (le_call (F__law_draw.cast eT) (hr.mono (by decide)) gd (takes_of rfl rfl rfl rfl) (la_cons (le_v 0) (la_cons (le_int) (la_nil))))))))
/-! _law_letters -/
def b__law_letters : M Fl := sSeq (sPar [4, 5, 6] [.v (mCall f__law_draw (aCons (mV 0) (aCons (ret (.int 5)) (aNil)))), .v (mCall f__law_draw (aCons (mV 0) (aCons (m2 dAdd (.n 2) (.v (ret (.int 1)))) (aNil)))), .l (aNil)]) (sSeq (sAsg (m2 dAdd (.v (ret (.int 1))) (.v (mCall f__law_draw (aCons (mV 0) (aCons (m2 dSub (.n 1) (.v (ret (.int 1)))) (aNil)))))) (gV 3)) (sSeq (sWhile (tB (m2 dLt (.v (mBi dLen [.n 6])) (.n 5))) (sIf (tB (m2 dEq (.n 4) (.v (ret (.int 0))))) (sApp 6 (m2 dAdd (.v (ret (.int 1))) (.v (mCall f__law_draw (aCons (mV 0) (aCons (mV 1) (aNil))))))) (sIf (tB (m2 dEq (.n 4) (.v (ret (.int 1))))) (sApp 6 (m2 dAdd (.n 3) (.v (mCall f__law_draw (aCons (mV 0) (aCons (ret (.int 2)) (aNil))))))) (sIf (tB (m2 dEq (.n 4) (.v (ret (.int 2))))) (sApp 6 (m2 dIx (.v (mLst (aCons (mV 3) (aCons (mV 3) (aCons (m2 dAdd (.v (ret (.int 1))) (.v (mCall f__law_draw (aCons (mV 0) (aCons (mV 1) (aNil)))))) (aNil)))))) (.v (mCall f__law_draw (aCons (mV 0) (aCons (ret (.int 3)) (aNil))))))) (sIf (tB (m2 dEq (.n 4) (.v (ret (.int 3))))) (sOwn 6 (mAddF (.n 6) (.v (mF (mRg3 (aCons (mV 1) (aCons (mCall f__law_draw (aCons (mV 0) (aCons (mV 1) (aNil)))) (aCons (m1 dNg (.v (ret (.int 1)))) (aNil))))))))) (sOwn 6 (mAddF (.n 6) (.v (mF (mRg2 (m2 dAdd (.v (ret (.int 1))) (.v (mCall f__law_draw (aCons (mV 0) (aCons (mV 1) (aNil)))))) (m2 dAdd (.n 1) (.v (ret (.int 1)))))))))))))) (sRet (mCut (.n 6) none (some (mV 5))))))
def f__law_letters : Fn := fnOf 7 3 b__law_letters
theorem sc__law_letters : FnScope ["m", "size", "most", "low", "kind", "many", "found"] ["m", "size", "most"] (defScope (top 40)) := ⟨rfl, rfl, rfl, by decide +kernel, rfl, by decide +kernel, by decide +kernel⟩
theorem ok__law_letters (G : Gs P K mg base) {f : Addr} {fd : FuncData} (F : FunD K "_law_letters" "_law_letters" (defArgs (top 40)) (defBody (top 40)) (defScope (top 40)) [] [] f fd) (F__law_draw : FnM P w K mg base T 2 "_law_draw" 2 f__law_draw) : FnG P w K mg base T 3 f 3 f__law_letters :=
  okM F sc__law_letters (fun _ _ _ _ _ _ us hl => match us, hl with | [_, _, _], _ => rfl) (fun cdv A outer s H E c eT gd hr => by
    have hN := sc__law_letters.nd
    exact lb_cons (ls_par3 4 5 6 rfl hN eT (PRh.v (fun c eT => le_call (F__law_draw.cast eT) (hr.mono (by decide)) gd (takes_of rfl rfl rfl rfl) (la_cons (le_v 0) (la_cons (le_int) (la_nil)))) rfl (PRh.v (fun c eT => le_call (F__law_draw.cast eT) (hr.mono (by decide)) gd (takes_of rfl rfl rfl rfl) (la_cons (le_v 0) (la_cons (le_add (lo_n 2) (lo_v (le_int))) (la_nil)))) rfl (PRh.l (fun c eT => lf_lst (la_nil)) rfl (PRh.nil))))) (lb_cons (ls_set 3 hN (le_add (lo_v (le_int)) (lo_v (le_call (F__law_draw.cast eT) (hr.mono (by decide)) gd (takes_of rfl rfl rfl rfl) (la_cons (le_v 0) (la_cons (le_sub (lo_n 1) (lo_v (le_int))) (la_nil))))))) (lb_cons (ls_while (passes_of rfl) (lt_cmp op_lt sm_lt (nomark _) (lo_v (le_len G.m_len (lo_n 6))) (lo_n 5)) (lb_one (ls_if (lt_cmp (op_eqD hr.units) sm_eq (nomark _) (lo_n 4) (lo_v (le_int))) (lb_one (ls_app 6 (le_add (lo_v (le_int)) (lo_v (le_call (F__law_draw.cast eT) (hr.mono (by decide)) gd (takes_of rfl rfl rfl rfl) (la_cons (le_v 0) (la_cons (le_v 1) (la_nil)))))))) (lb_one (ls_if (lt_cmp (op_eqD hr.units) sm_eq (nomark _) (lo_n 4) (lo_v (le_int))) (lb_one (ls_app 6 (le_add (lo_n 3) (lo_v (le_call (F__law_draw.cast eT) (hr.mono (by decide)) gd (takes_of rfl rfl rfl rfl) (la_cons (le_v 0) (la_cons (le_int) (la_nil)))))))) (lb_one (ls_if (lt_cmp (op_eqD hr.units) sm_eq (nomark _) (lo_n 4) (lo_v (le_int))) (lb_one (ls_app 6 (le_ix (lo_v (le_lst (la_cons (le_v 3) (la_cons (le_v 3) (la_cons (le_add (lo_v (le_int)) (lo_v (le_call (F__law_draw.cast eT) (hr.mono (by decide)) gd (takes_of rfl rfl rfl rfl) (la_cons (le_v 0) (la_cons (le_v 1) (la_nil)))))) (la_nil)))))) (lo_v (le_call (F__law_draw.cast eT) (hr.mono (by decide)) gd (takes_of rfl rfl rfl rfl) (la_cons (le_v 0) (la_cons (le_int) (la_nil)))))))) (lb_one (ls_if (lt_cmp (op_eqD hr.units) sm_eq (nomark _) (lo_n 4) (lo_v (le_int))) (lb_one (ls_own 6 hN (lf_add (lo_n 6) (lo_v (le_f (lf_listRg3 rfl G.m_list G.m_range (la_cons (le_v 1) (la_cons (le_call (F__law_draw.cast eT) (hr.mono (by decide)) gd (takes_of rfl rfl rfl rfl) (la_cons (le_v 0) (la_cons (le_v 1) (la_nil)))) (la_cons (le_neg (lo_v (le_int))) (la_nil)))))))))) (lb_one (ls_own 6 hN (lf_add (lo_n 6) (lo_v (le_f (lf_listRg rfl G.m_list (lr_2 G.m_range (le_add (lo_v (le_int)) (lo_v (le_call (F__law_draw.cast eT) (hr.mono (by decide)) gd (takes_of rfl rfl rfl rfl) (la_cons (le_v 0) (la_cons (le_v 1) (la_nil)))))) (le_add (lo_n 1) (lo_v (le_int))))))))))))))))))) (lb_one (ls_ret (le_cut (lo_n 6) lp_none (lp_some (le_v 5))))))))
/-! is_whole -/
def b_is_whole : M Fl := sRet (mAnd (m1 (dIsT "int") (.n 0)) (mNot (m1 (dIsT "bool") (.n 0))))
def f_is_whole : Fn := fnOf 1 1 b_is_whole
theorem sc_is_whole : FnScope ["value"] ["value"] (defScope (top 19)) := ⟨rfl, rfl, rfl, by decide +kernel, rfl, by decide +kernel, by decide +kernel⟩
theorem ok_is_whole (G : Gs P K mg base) {f : Addr} {fd : FuncData} (F : FunD K "is_whole" "is_whole" (defArgs (top 19)) (defBody (top 19)) (defScope (top 19)) [] [] f fd) : FnG P w K mg base T 1 f 1 f_is_whole :=
  okM F sc_is_whole (fun _ _ _ _ _ _ us hl => match us, hl with | [_], _ => rfl) (fun cdv A outer s H E c eT gd hr => by
    have hN := sc_is_whole.nd
    exact lb_one (ls_ret (le_and (le_isT ask_int G.m_isinstance G.m_int (lo_n 0)) (le_one (le_not (le_isT ask_bool G.m_isinstance G.m_bool (lo_n 0)))))))
/-! is_among -/
def b_is_among : M Fl := sRet (mAnd (mCall f_is_whole (aCons (mV 0) (aNil))) (mCh dLe dLe (mV 1) (mV 0) (mV 2)))
def f_is_among : Fn := fnOf 3 3 b_is_among
theorem sc_is_among : FnScope ["value", "least", "most"] ["value", "least", "most"] (defScope (top 20)) := ⟨rfl, rfl, rfl, by decide +kernel, rfl, by decide +kernel, by decide +kernel⟩
theorem ok_is_among (G : Gs P K mg base) {f : Addr} {fd : FuncData} (F : FunD K "is_among" "is_among" (defArgs (top 20)) (defBody (top 20)) (defScope (top 20)) [] [] f fd) (F_is_whole : FnM P w K mg base T 1 "is_whole" 1 f_is_whole) : FnG P w K mg base T 2 f 3 f_is_among :=
  okM F sc_is_among (fun _ _ _ _ _ _ us hl => match us, hl with | [_, _, _], _ => rfl) (fun cdv A outer s H E c eT gd hr => by
    have hN := sc_is_among.nd
    exact lb_one (ls_ret (le_and (le_call (F_is_whole.cast eT) (hr.mono (by decide)) gd (takes_of rfl rfl rfl rfl) (la_cons (le_v 0) (la_nil))) (le_one (le_chain op_le op_le sm_le sm_le (le_v 1) (le_v 0) (le_v 2))))))
/-! need_size -/
def b_need_size : M Fl := sIf (Lw.tNot (tB (mCall f_is_among (aCons (mV 0) (aCons (ret (.int 2)) (aCons (ret (.int 6)) (aNil))))))) (sRaise (mExc "BadSize" (aCons (mV 0) (aNil)))) (sNx)
def f_need_size : Fn := fnOf 1 1 b_need_size
theorem sc_need_size : FnScope ["size"] ["size"] (defScope (top 22)) := ⟨rfl, rfl, rfl, by decide +kernel, rfl, by decide +kernel, by decide +kernel⟩
theorem ok_need_size (G : Gs P K mg base) {f : Addr} {fd : FuncData} (F : FunD K "need_size" "need_size" (defArgs (top 22)) (defBody (top 22)) (defScope (top 22)) [] [] f fd) (F_is_among : FnM P w K mg base T 2 "is_among" 3 f_is_among) : FnG P w K mg base T 3 f 1 f_need_size :=
  okM F sc_need_size (fun _ _ _ _ _ _ us hl => match us, hl with | [_], _ => rfl) (fun cdv A outer s H E c eT gd hr => by
    have hN := sc_need_size.nd
    exact lb_one (ls_if (lt_not (lt_b (le_call (F_is_among.cast eT) (hr.mono (by decide)) gd (takes_of rfl rfl rfl rfl) (la_cons (le_v 0) (la_cons (le_int) (la_cons (le_gint G.c_MOST_SIZE) (la_nil))))))) (lb_one (ls_raise rfl (takes_of rfl rfl rfl rfl) (lx_1 (cn := "BadSize") G.x_BadSize rfl G.tp hr (la_cons (le_v 0) (la_nil))))) (lb_nil)))
/-! is_row -/
def b_is_row : M Fl := sRet (m1 (dIsT2X clsN "list" "tuple") (.n 0))
def f_is_row : Fn := fnOf 1 1 b_is_row
theorem sc_is_row : FnScope ["value"] ["value"] (defScope (top 21)) := ⟨rfl, rfl, rfl, by decide +kernel, rfl, by decide +kernel, by decide +kernel⟩
theorem ok_is_row (G : Gs P K mg base) {f : Addr} {fd : FuncData} (F : FunD K "is_row" "is_row" (defArgs (top 21)) (defBody (top 21)) (defScope (top 21)) [] [] f fd) : FnG P w K mg base T 1 f 1 f_is_row :=
  okM F sc_is_row (fun _ _ _ _ _ _ us hl => match us, hl with | [_], _ => rfl) (fun cdv A outer s H E c eT gd hr => by
    have hN := sc_is_row.nd
    exact lb_one (ls_ret (le_isT2X G.isL (by decide) (by decide) ask_list ask_tuple G.m_isinstance G.m_list G.m_tuple (lo_n 0))))
/-! Word.__init__ -/
def b_Word___init__ : M Fl := sSeq (sDrop (mCall f_need_size (aCons (mV 1) (aNil)))) (sSeq (sIf (Lw.tNot (tB (mCall f_is_row (aCons (mV 2) (aNil))))) (sRaise (mExc "BadLetters" (aCons (ret .non) (aNil)))) (sNx)) (sSeq (sIf (tB (m2 dGt (.v (mBi dLen [.n 2])) (.v (ret (.int 40))))) (sRaise (mExc "TooGreat" (aCons (ret (.int 40)) (aNil)))) (sNx)) (sSeq (sFor (bnd (mV 2) (fun a => opt (iEn a))) (gT [gV 3, gV 4]) (sIf (Lw.tNot (tB (mCall f_is_among (aCons (mV 4) (aCons (ret (.int 1)) (aCons (mV 1) (aNil))))))) (sRaise (mExc "BadLetters" (aCons (mV 3) (aNil)))) (sNx))) (sNx))))
def f_Word___init__ : Fn := fnI "Word" [1, 0] 4 2 b_Word___init__ (asM [mV 1, mBi dTuple [.n 2]])
theorem sc_Word___init__ : FnScope ["self", "size", "letters", "place", "letter"] ["self", "size", "letters"] (defScope (cls1 (top 24) 1)) := ⟨rfl, rfl, rfl, by decide +kernel, rfl, by decide +kernel, by decide +kernel⟩
theorem ok_Word___init__ (G : Gs P K mg base) {f : Addr} {fd : FuncData} (F : FunD K "__init__" "Word.__init__" (defArgs (cls1 (top 24) 1)) (defBody (cls1 (top 24) 1)) (defScope (cls1 (top 24) 1)) [] [] f fd) (F_is_among : FnM P w K mg base T 2 "is_among" 3 f_is_among) (F_is_row : FnM P w K mg base T 1 "is_row" 1 f_is_row) (F_need_size : FnM P w K mg base T 3 "need_size" 1 f_need_size) : FnI P w K mg base T 4 "Word" f 2 f_Word___init__ :=
  okI (ix := [1, 0]) (pm := [1, 0]) F sc_Word___init__ (fun ws hl => match ws, hl with | [_, _], _ => ⟨rfl, by simp [vsOf, SlX.putS]⟩) rfl rfl rfl (Or.inl rfl) (fun _ _ _ _ _ _ us hl => match us, hl with | [_, _, _], _ => rfl) (fun cdv A outer s H E c eT gd hr => by
    have hN := sc_Word___init__.nd
    exact lbi_cons (ls_expr (le_call (F_need_size.cast eT) (hr.mono (by decide)) gd (takes_of rfl rfl rfl rfl) (la_cons (le_v 1) (la_nil)))) (lbi_cons (ls_if (lt_not (lt_b (le_call (F_is_row.cast eT) (hr.mono (by decide)) gd (takes_of rfl rfl rfl rfl) (la_cons (le_v 2) (la_nil))))) (lb_one (ls_raise rfl (takes_of rfl rfl rfl rfl) (lx_1 (cn := "BadLetters") G.x_BadLetters rfl G.tp hr (la_cons (le_non) (la_nil))))) (lb_nil)) (lbi_cons (ls_if (lt_cmp op_gt sm_gt (nomark _) (lo_v (le_len G.m_len (lo_n 2))) (lo_v (le_gint G.c_MOST_LETTERS))) (lb_one (ls_raise rfl (takes_of rfl rfl rfl rfl) (lx_1 (cn := "TooGreat") G.x_TooGreat rfl G.tp hr (la_cons (le_gint G.c_MOST_LETTERS) (la_nil))))) (lb_nil)) (lbi_cons (ls_for (passes_of rfl) rfl (li_enum G.m_enumerate (le_v 2)) (lg_t rfl (lgs_cons (lg_v 3 hN) (lgs_cons (lg_v 4 hN) (lgs_nil)))) (lb_one (ls_if (lt_not (lt_b (le_call (F_is_among.cast eT) (hr.mono (by decide)) gd (takes_of rfl rfl rfl rfl) (la_cons (le_v 4) (la_cons (le_int) (la_cons (le_v 1) (la_nil))))))) (lb_one (ls_raise rfl (takes_of rfl rfl rfl rfl) (lx_1 (cn := "BadLetters") G.x_BadLetters rfl G.tp hr (la_cons (le_v 3) (la_nil))))) (lb_nil)))) (lbi_nil (psets_run (G.slC ("Word", ["letters", "size"]) (by decide)) rfl (Or.inl rfl) [] (PSets.cons (f := "size") (i := 1) rfl (fun c eT => le_v 1) rfl (PSets.cons (f := "letters") (i := 0) rfl (fun c eT => le_tuple G.m_tuple (lo_n 2)) rfl (PSets.nil)))))))))
/-! _law_formed -/
def b__law_formed : M Fl := sSeq (sIf (Lw.tOr (Lw.tNot (tB (m1 (dIsT "tuple") (.n 0)))) (Lw.tOr (tB (m2 dNe (.v (mBi dLen [.n 0])) (.v (ret (.int 2))))) (Lw.tNot (tB (m1 (dIsT "str") (.v (m2 dIx (.n 0) (.v (ret (.int 0)))))))))) (sRet (ret (.bl false))) (sNx)) (sSeq (sIf (Lw.tOr (tB (m2 dNin (.v (m2 dIx (.n 0) (.v (ret (.int 0))))) (.v (mTup (aCons (ret (.str "first")) (aCons (ret (.str "last")) (aCons (ret (.str "in")) (aCons (ret (.str "out")) (aNil))))))))) (Lw.tNot (tB (m1 (dIsT "int") (.v (m2 dIx (.n 0) (.v (ret (.int 1))))))))) (sRet (ret (.bl false))) (sNx)) (sRet (mAnd (mNot (m1 (dIsT "bool") (.v (m2 dIx (.n 0) (.v (ret (.int 1))))))) (m2 dGe (.v (m2 dIx (.n 0) (.v (ret (.int 1))))) (.v (ret (.int 0)))))))
def f__law_formed : Fn := fnOf 1 1 b__law_formed
theorem sc__law_formed : FnScope ["value"] ["value"] (defScope (top 44)) := ⟨rfl, rfl, rfl, by decide +kernel, rfl, by decide +kernel, by decide +kernel⟩
theorem ok__law_formed (G : Gs P K mg base) {f : Addr} {fd : FuncData} (F : FunD K "_law_formed" "_law_formed" (defArgs (top 44)) (defBody (top 44)) (defScope (top 44)) [] [] f fd) : FnG P w K mg base T 1 f 1 f__law_formed :=
  okM F sc__law_formed (fun _ _ _ _ _ _ us hl => match us, hl with | [_], _ => rfl) (fun cdv A outer s H E c eT gd hr => by
    have hN := sc__law_formed.nd
    exact lb_cons (ls_if (lt_w (lw_or (lt_not (lt_b (le_isT ask_tuple G.m_isinstance G.m_tuple (lo_n 0)))) (lw_or (lt_cmp (op_neD hr.units) sm_ne (nomark _) (lo_v (le_len G.m_len (lo_n 0))) (lo_v (le_int))) (lw_or1 (lt_not (lt_b (le_isT ask_str G.m_isinstance G.m_str (lo_v (le_ix (lo_n 0) (lo_v (le_int))))))))))) (lb_one (ls_ret (le_bl))) (lb_nil)) (lb_cons (ls_if (lt_w (lw_or (lt_cmp (op_ninA (units1 hr)) sm_nin rfl (lo_v (le_ix (lo_n 0) (lo_v (le_int)))) (lo_v (le_tup (la_cons (le_str) (la_cons (le_str) (la_cons (le_str) (la_cons (le_str) (la_nil)))))))) (lw_or1 (lt_not (lt_b (le_isT ask_int G.m_isinstance G.m_int (lo_v (le_ix (lo_n 0) (lo_v (le_int)))))))))) (lb_one (ls_ret (le_bl))) (lb_nil)) (lb_one (ls_ret (le_and (le_not (le_isT ask_bool G.m_isinstance G.m_bool (lo_v (le_ix (lo_n 0) (lo_v (le_int)))))) (le_one (le_cmp op_ge sm_ge (nomark _) (lo_v (le_ix (lo_n 0) (lo_v (le_int)))) (lo_v (le_int)))))))))
/-! _law_moved -/
def b__law_moved : M Fl := sSeq (sIf (Lw.tOr (Lw.tNot (tB (mCall f__law_formed (aCons (mV 2) (aNil))))) (tB (m2 dGt (.v (m2 dIx (.n 2) (.v (ret (.int 1))))) (.v (mBi dLen [.n 1]))))) (sRet (ret .non)) (sNx)) (sSeq (sAsg (mV 2) (gU [gV 4, gV 5])) (sSeq (sAsg (mF (mRg3 (aCons (mV 0) (aCons (ret (.int 0)) (aCons (m1 dNg (.v (ret (.int 1)))) (aNil)))))) (gV 3)) (sSeq (sIf (tB (m2 dEq (.n 4) (.v (ret (.str "in"))))) (sRet (m2 dAdd (.v (m2 dAdd (.v (mCut (.n 1) none (some (mV 5)))) (.n 3))) (.v (mCut (.n 1) (some (mV 5)) none)))) (sNx)) (sSeq (sIf (tB (m2 dEq (.n 4) (.v (ret (.str "out"))))) (sRet (mIf (tB (m2 dEq (.v (mCut (.n 1) (some (mV 5)) (some (m2 dAdd (.n 5) (.n 0))))) (.n 3))) (m2 dAdd (.v (mCut (.n 1) none (some (mV 5)))) (.v (mCut (.n 1) (some (m2 dAdd (.n 5) (.n 0))) none))) (ret .non))) (sNx)) (sSeq (sIf (tB (m2 dGt (.v (m2 dAdd (.n 5) (.v (ret (.int 3))))) (.v (mBi dLen [.n 1])))) (sRet (ret .non)) (sNx)) (sSeq (sAsg (mCut (.n 1) (some (mV 5)) (some (m2 dAdd (.n 5) (.v (ret (.int 3)))))) (gU [gV 6, gV 7, gV 8])) (sSeq (sIf (Lw.tAnd (tB (m2 dEq (.n 4) (.v (ret (.str "first"))))) (Lw.tOr (tB (mCh dLe dLt (mV 6) (mV 8) (mV 7))) (tB (mCh dLe dLt (mV 7) (mV 8) (mV 6))))) (sRet (m2 dAdd (.v (m2 dAdd (.v (mCut (.n 1) none (some (mV 5)))) (.v (mLst (aCons (mV 7) (aCons (mV 6) (aNil))))))) (.v (mCut (.n 1) (some (m2 dAdd (.n 5) (.v (ret (.int 2))))) none)))) (sNx)) (sSeq (sIf (Lw.tAnd (tB (m2 dEq (.n 4) (.v (ret (.str "last"))))) (Lw.tOr (tB (mCh dLt dLe (mV 7) (mV 6) (mV 8))) (tB (mCh dLt dLe (mV 8) (mV 6) (mV 7))))) (sRet (m2 dAdd (.v (m2 dAdd (.v (mCut (.n 1) none (some (m2 dAdd (.n 5) (.v (ret (.int 1))))))) (.v (mLst (aCons (mV 8) (aCons (mV 7) (aNil))))))) (.v (mCut (.n 1) (some (m2 dAdd (.n 5) (.v (ret (.int 3))))) none)))) (sNx)) (sRet (ret .non))))))))))
def f__law_moved : Fn := fnOf 9 3 b__law_moved
theorem sc__law_moved : FnScope ["size", "letters", "move", "falling", "kind", "at", "a", "b", "c"] ["size", "letters", "move"] (defScope (top 45)) := ⟨rfl, rfl, rfl, by decide +kernel, rfl, by decide +kernel, by decide +kernel⟩
theorem ok__law_moved (G : Gs P K mg base) {f : Addr} {fd : FuncData} (F : FunD K "_law_moved" "_law_moved" (defArgs (top 45)) (defBody (top 45)) (defScope (top 45)) [] [] f fd) (F__law_formed : FnM P w K mg base T 1 "_law_formed" 1 f__law_formed) : FnG P w K mg base T 2 f 3 f__law_moved :=
  okM F sc__law_moved (fun _ _ _ _ _ _ us hl => match us, hl with | [_, _, _], _ => rfl) (fun cdv A outer s H E c eT gd hr => by
    have hN := sc__law_moved.nd
    exact lb_cons (ls_if (lt_w (lw_or (lt_not (lt_b (le_call (F__law_formed.cast eT) (hr.mono (by decide)) gd (takes_of rfl rfl rfl rfl) (la_cons (le_v 2) (la_nil))))) (lw_or1 (lt_cmp op_gt sm_gt (nomark _) (lo_v (le_ix (lo_n 2) (lo_v (le_int)))) (lo_v (le_len G.m_len (lo_n 1))))))) (lb_one (ls_ret (le_non))) (lb_nil)) (lb_cons (ls_asg (le_v 2) (lg_u rfl (lgs_cons (lg_v 4 hN) (lgs_cons (lg_v 5 hN) (lgs_nil))))) (lb_cons (ls_set 3 hN (le_f (lf_listRg3 rfl G.m_list G.m_range (la_cons (le_v 0) (la_cons (le_int) (la_cons (le_neg (lo_v (le_int))) (la_nil))))))) (lb_cons (ls_if (lt_cmp (op_eqD hr.units) sm_eq (nomark _) (lo_n 4) (lo_v (le_str))) (lb_one (ls_ret (le_add (lo_v (le_add (lo_v (le_cut (lo_n 1) lp_none (lp_some (le_v 5)))) (lo_n 3))) (lo_v (le_cut (lo_n 1) (lp_some (le_v 5)) lp_none))))) (lb_nil)) (lb_cons (ls_if (lt_cmp (op_eqD hr.units) sm_eq (nomark _) (lo_n 4) (lo_v (le_str))) (lb_one (ls_ret (le_if (lt_cmp (op_eqD hr.units) sm_eq (nomark _) (lo_v (le_cut (lo_n 1) (lp_some (le_v 5)) (lp_some (le_add (lo_n 5) (lo_n 0))))) (lo_n 3)) (le_add (lo_v (le_cut (lo_n 1) lp_none (lp_some (le_v 5)))) (lo_v (le_cut (lo_n 1) (lp_some (le_add (lo_n 5) (lo_n 0))) lp_none))) (le_non)))) (lb_nil)) (lb_cons (ls_if (lt_cmp op_gt sm_gt (nomark _) (lo_v (le_add (lo_n 5) (lo_v (le_int)))) (lo_v (le_len G.m_len (lo_n 1)))) (lb_one (ls_ret (le_non))) (lb_nil)) (lb_cons (ls_asg (le_cut (lo_n 1) (lp_some (le_v 5)) (lp_some (le_add (lo_n 5) (lo_v (le_int))))) (lg_u rfl (lgs_cons (lg_v 6 hN) (lgs_cons (lg_v 7 hN) (lgs_cons (lg_v 8 hN) (lgs_nil)))))) (lb_cons (ls_if (lt_w (lw_and (lt_cmp (op_eqD hr.units) sm_eq (nomark _) (lo_n 4) (lo_v (le_str))) (lw_and1 (lt_w (lw_or (lt_chain op_le op_lt sm_le sm_lt (le_v 6) (le_v 8) (le_v 7)) (lw_or1 (lt_chain op_le op_lt sm_le sm_lt (le_v 7) (le_v 8) (le_v 6)))))))) (lb_one (ls_ret (le_add (lo_v (le_add (lo_v (le_cut (lo_n 1) lp_none (lp_some (le_v 5)))) (lo_v (le_lst (la_cons (le_v 7) (la_cons (le_v 6) (la_nil))))))) (lo_v (le_cut (lo_n 1) (lp_some (le_add (lo_n 5) (lo_v (le_int)))) lp_none))))) (lb_nil)) (lb_cons (ls_if (lt_w (lw_and (lt_cmp (op_eqD hr.units) sm_eq (nomark _) (lo_n 4) (lo_v (le_str))) (lw_and1 (lt_w (lw_or (lt_chain op_lt op_le sm_lt sm_le (le_v 7) (le_v 6) (le_v 8)) (lw_or1 (lt_chain op_lt op_le sm_lt sm_le (le_v 8) (le_v 6) (le_v 7)))))))) (lb_one (ls_ret (le_add (lo_v (le_add (lo_v (le_cut (lo_n 1) lp_none (lp_some (le_add (lo_n 5) (lo_v (le_int)))))) (lo_v (le_lst (la_cons (le_v 8) (la_cons (le_v 7) (la_nil))))))) (lo_v (le_cut (lo_n 1) (lp_some (le_add (lo_n 5) (lo_v (le_int)))) lp_none))))) (lb_nil)) (lb_one (ls_ret (le_non))))))))))))
/-! _law_moves -/
def b__law_moves : M Fl := sSeq (sOwn 4 (aNil)) (sSeq (sFor (mRg1 (mV 3)) (gV 5) (sSeq (sAsg (mLst (aNil)) (gV 6)) (sSeq (sFor (bnd (mTup (aCons (ret (.str "first")) (aCons (ret (.str "last")) (aCons (ret (.str "out")) (aNil))))) (fun a => opt (items a))) (gV 7) (sAsg (m2 dAdd (.n 6) (.v (mF (mLc (mRg1 (mBi dLen [.n 2])) (gV 9) (tTrue) (mTup (aCons (mV 7) (aCons (mV 9) (aNil)))) [9])))) (gV 6))) (sSeq (sAsg (mF (mLc (bnd (mV 6) (fun a => opt (items a))) (gV 8) (tB (m2 dNtN (.v (mCall f__law_moved (aCons (mV 1) (aCons (mV 2) (aCons (mV 8) (aNil)))))) (.v (ret .non)))) (mV 8) [8])) (gV 6)) (sSeq (sIf (Lw.tOr (Lw.tAnd (tB (m2 dLe (.v (m2 dAdd (.v (mBi dLen [.n 2])) (.n 1))) (.v (ret (.int 40))))) (tB (m2 dEq (.v (mCall f__law_draw (aCons (mV 0) (aCons (ret (.int 4)) (aNil))))) (.v (ret (.int 0)))))) (tB (m2 dEq (.n 6) (.v (mLst (aNil)))))) (sAsg (mIf (tB (m2 dLe (.v (m2 dAdd (.v (mBi dLen [.n 2])) (.n 1))) (.v (ret (.int 40))))) (mLst (aCons (mTup (aCons (ret (.str "in")) (aCons (mCall f__law_draw (aCons (mV 0) (aCons (m2 dAdd (.v (mBi dLen [.n 2])) (.v (ret (.int 1)))) (aNil)))) (aNil)))) (aNil))) (mV 6)) (gV 6)) (sNx)) (sIf (tB (m2 dNe (.n 6) (.v (mLst (aNil))))) (sSeq (sApp 4 (m2 dIx (.n 6) (.v (mCall f__law_draw (aCons (mV 0) (aCons (mBi dLen [.n 6]) (aNil))))))) (sAsg (mCall f__law_moved (aCons (mV 1) (aCons (mV 2) (aCons (m2 dIx (.n 4) (.v (m1 dNg (.v (ret (.int 1)))))) (aNil))))) (gV 2))) (sNx))))))) (sRet (mLst (aCons (mZ 4) (aCons (mV 2) (aNil))))))
def f__law_moves : Fn := fnOf 10 4 b__law_moves
theorem sc__law_moves : FnScope ["m", "size", "letters", "many", "row", "k", "some", "kind", "move", "at"] ["m", "size", "letters", "many"] (defScope (top 46)) := ⟨rfl, rfl, rfl, by decide +kernel, rfl, by decide +kernel, by decide +kernel⟩
theorem ok__law_moves (G : Gs P K mg base) {f : Addr} {fd : FuncData} (F : FunD K "_law_moves" "_law_moves" (defArgs (top 46)) (defBody (top 46)) (defScope (top 46)) [] [] f fd) (F__law_draw : FnM P w K mg base T 2 "_law_draw" 2 f__law_draw) (F__law_moved : FnM P w K mg base T 2 "_law_moved" 3 f__law_moved) : FnG P w K mg base T 3 f 4 f__law_moves :=
  okM F sc__law_moves (fun _ _ _ _ _ _ us hl => match us, hl with | [_, _, _, _], _ => rfl) (fun cdv A outer s H E c eT gd hr => by
    have hN := sc__law_moves.nd
    exact lb_cons (ls_own 4 hN (lf_lst (la_nil))) (lb_cons (ls_for (passes_of rfl) rfl (li_rg1 G.m_range (le_v 3)) (lg_v 5 hN) (lb_cons (ls_set 6 hN (le_lst (la_nil))) (lb_cons (ls_for (passes_of rfl) rfl (li_seq (le_tup (la_cons (le_str) (la_cons (le_str) (la_cons (le_str) (la_nil)))))) (lg_v 7 hN) (lb_one (ls_set 6 hN (le_add (lo_n 6) (lo_v (le_f (lf_lc [("at", 9)] rfl hN (li_rg1 G.m_range (le_len G.m_len (lo_n 2))) (blkOk_by rfl) (fun _ _ _ _ _ c1 e1 => lg_v 9 hN (hvs := by decide)) (fun _ _ _ _ _ c1 e1 => lq_nil) (fun _ _ _ _ _ c1 e1 => le_tup (la_cons (le_v 7) (la_cons (le_v 9) (la_nil))))))))))) (lb_cons (ls_setF (ls_lc 6 [("move", 8)] rfl hN rfl (li_seq (le_v 6)) (blkOk_by rfl) (fun _ _ _ _ _ c1 e1 => lg_v 8 hN (hvs := by decide)) (fun _ _ _ _ _ c1 e1 => lq_one (lt_cmp op_notN sm_ntN (nomark _) (lo_v (le_call (F__law_moved.cast (e1.trans eT)) (hr.mono (by decide)) gd takes0 (la_cons (le_v 1) (la_cons (le_v 2) (la_cons (le_v 8) (la_nil)))))) (lo_v (le_non)))) (fun _ _ _ _ _ c1 e1 => le_v 8))) (lb_cons (ls_if (lt_w (lw_or (lt_w (lw_and (lt_cmp op_le sm_le (nomark _) (lo_v (le_add (lo_v (le_len G.m_len (lo_n 2))) (lo_n 1))) (lo_v (le_int))) (lw_and1 (lt_cmp (op_eqD hr.units) sm_eq (nomark _) (lo_v (le_call (F__law_draw.cast eT) (hr.mono (by decide)) gd (takes_of rfl rfl rfl rfl) (la_cons (le_v 0) (la_cons (le_int) (la_nil))))) (lo_v (le_int)))))) (lw_or1 (lt_cmp (op_eqD hr.units) sm_eq (nomark _) (lo_n 6) (lo_v (le_lst (la_nil))))))) (lb_one (ls_set 6 hN (le_if (lt_cmp op_le sm_le (nomark _) (lo_v (le_add (lo_v (le_len G.m_len (lo_n 2))) (lo_n 1))) (lo_v (le_int))) (le_lst (la_cons (le_tup (la_cons (le_str) (la_cons (le_call (F__law_draw.cast eT) (hr.mono (by decide)) gd (takes_of rfl rfl rfl rfl) (la_cons (le_v 0) (la_cons (le_add (lo_v (le_len G.m_len (lo_n 2))) (lo_v (le_int))) (la_nil)))) (la_nil)))) (la_nil))) (le_v 6)))) (lb_nil)) (lb_one (ls_if (lt_cmp (op_neD hr.units) sm_ne (nomark _) (lo_n 6) (lo_v (le_lst (la_nil)))) (lb_cons (ls_app 4 (le_ix (lo_n 6) (lo_v (le_call (F__law_draw.cast eT) (hr.mono (by decide)) gd (takes_of rfl rfl rfl rfl) (la_cons (le_v 0) (la_cons (le_len G.m_len (lo_n 6)) (la_nil))))))) (lb_one (ls_set 2 hN (le_call (F__law_moved.cast eT) (hr.mono (by decide)) gd (takes_of rfl rfl rfl rfl) (la_cons (le_v 1) (la_cons (le_v 2) (la_cons (le_ix (lo_n 4) (lo_v (le_neg (lo_v (le_int))))) (la_nil)))))))) (lb_nil)))))))) (lb_one (ls_ret (le_lst (la_cons (le_z 4) (la_cons (le_v 2) (la_nil))))))))
/-! fall -/
def b_fall : M Fl := sRet (mTup (mRg3 (aCons (mV 0) (aCons (ret (.int 0)) (aCons (m1 dNg (.v (ret (.int 1)))) (aNil))))))
def f_fall : Fn := fnOf 1 1 b_fall
theorem sc_fall : FnScope ["size"] ["size"] (defScope (top 27)) := ⟨rfl, rfl, rfl, by decide +kernel, rfl, by decide +kernel, by decide +kernel⟩
theorem ok_fall (G : Gs P K mg base) {f : Addr} {fd : FuncData} (F : FunD K "fall" "fall" (defArgs (top 27)) (defBody (top 27)) (defScope (top 27)) [] [] f fd) : FnG P w K mg base T 1 f 1 f_fall :=
  okM F sc_fall (fun _ _ _ _ _ _ us hl => match us, hl with | [_], _ => rfl) (fun cdv A outer s H E c eT gd hr => by
    have hN := sc_fall.nd
    exact lb_one (ls_ret (le_tupRg3 rfl G.m_tuple G.m_range (la_cons (le_v 0) (la_cons (le_int) (la_cons (le_neg (lo_v (le_int))) (la_nil)))))))
/-! made -/
def b_made : M Fl := sSeq (sAsg (mV 1) (gU [gV 4, gV 5])) (sSeq (sAsg (m1 (dSlot slots "letters") (.n 0)) (gV 2)) (sSeq (sIf (tB (m2 dEq (.n 4) (.v (ret (.str "in"))))) (sRet (mCall f_Word___init__ (aCons (m1 (dSlot slots "size") (.n 0)) (aCons (m2 dAdd (.v (m2 dAdd (.v (mCut (.n 2) none (some (mV 5)))) (.v (mCall f_fall (aCons (m1 (dSlot slots "size") (.n 0)) (aNil)))))) (.v (mCut (.n 2) (some (mV 5)) none))) (aNil))))) (sNx)) (sSeq (sIf (tB (m2 dEq (.n 4) (.v (ret (.str "out"))))) (sRet (mCall f_Word___init__ (aCons (m1 (dSlot slots "size") (.n 0)) (aCons (m2 dAdd (.v (mCut (.n 2) none (some (mV 5)))) (.v (mCut (.n 2) (some (m2 dAdd (.n 5) (.v (m1 (dSlot slots "size") (.n 0))))) none))) (aNil))))) (sNx)) (sSeq (sAsg (mIf (tB (m2 dEq (.n 4) (.v (ret (.str "first"))))) (mV 5) (m2 dAdd (.n 5) (.v (ret (.int 1))))) (gV 3)) (sRet (mCall f_Word___init__ (aCons (m1 (dSlot slots "size") (.n 0)) (aCons (m2 dAdd (.v (m2 dAdd (.v (mCut (.n 2) none (some (mV 3)))) (.v (mTup (aCons (m2 dIx (.n 2) (.v (m2 dAdd (.n 3) (.v (ret (.int 1)))))) (aCons (m2 dIx (.n 2) (.n 3)) (aNil))))))) (.v (mCut (.n 2) (some (m2 dAdd (.n 3) (.v (ret (.int 2))))) none))) (aNil)))))))))
def f_made : Fn := fnOf 6 2 b_made
theorem sc_made : FnScope ["word", "move", "letters", "at", "kind", "place"] ["word", "move"] (defScope (top 30)) := ⟨rfl, rfl, rfl, by decide +kernel, rfl, by decide +kernel, by decide +kernel⟩
theorem ok_made (G : Gs P K mg base) {f : Addr} {fd : FuncData} (F : FunD K "made" "made" (defArgs (top 30)) (defBody (top 30)) (defScope (top 30)) [] [] f fd) (F_Word___init__ : MkM P w K mg base T 4 "Word" 2 f_Word___init__) (F_fall : FnM P w K mg base T 1 "fall" 1 f_fall) : FnG P w K mg base T 6 f 2 f_made :=
  okM F sc_made (fun _ _ _ _ _ _ us hl => match us, hl with | [_, _], _ => rfl) (fun cdv A outer s H E c eT gd hr => by
    have hN := sc_made.nd
    exact lb_cons (ls_asg (le_v 1) (lg_u rfl (lgs_cons (lg_v 4 hN) (lgs_cons (lg_v 5 hN) (lgs_nil))))) (lb_cons (ls_set 2 hN (le_slot (f := "letters") G.slC (lo_n 0))) (lb_cons (ls_if (lt_cmp (op_eqD hr.units) sm_eq (nomark _) (lo_n 4) (lo_v (le_str))) (lb_one (ls_ret (le_make (F_Word___init__.cast eT) (hr.mono (by decide)) gd (takes_of rfl rfl rfl rfl) (la_cons (le_slot (f := "size") G.slC (lo_n 0)) (la_cons (le_add (lo_v (le_add (lo_v (le_cut (lo_n 2) lp_none (lp_some (le_v 5)))) (lo_v (le_call (F_fall.cast eT) (hr.mono (by decide)) gd (takes_of rfl rfl rfl rfl) (la_cons (le_slot (f := "size") G.slC (lo_n 0)) (la_nil)))))) (lo_v (le_cut (lo_n 2) (lp_some (le_v 5)) lp_none))) (la_nil)))))) (lb_nil)) (lb_cons (ls_if (lt_cmp (op_eqD hr.units) sm_eq (nomark _) (lo_n 4) (lo_v (le_str))) (lb_one (ls_ret (le_make (F_Word___init__.cast eT) (hr.mono (by decide)) gd (takes_of rfl rfl rfl rfl) (la_cons (le_slot (f := "size") G.slC (lo_n 0)) (la_cons (le_add (lo_v (le_cut (lo_n 2) lp_none (lp_some (le_v 5)))) (lo_v (le_cut (lo_n 2) (lp_some (le_add (lo_n 5) (lo_v (le_slot (f := "size") G.slC (lo_n 0))))) lp_none))) (la_nil)))))) (lb_nil)) (lb_cons (ls_set 3 hN (le_if (lt_cmp (op_eqD hr.units) sm_eq (nomark _) (lo_n 4) (lo_v (le_str))) (le_v 5) (le_add (lo_n 5) (lo_v (le_int))))) (lb_one (ls_ret (le_make (F_Word___init__.cast eT) (hr.mono (by decide)) gd (takes_of rfl rfl rfl rfl) (la_cons (le_slot (f := "size") G.slC (lo_n 0)) (la_cons (le_add (lo_v (le_add (lo_v (le_cut (lo_n 2) lp_none (lp_some (le_v 3)))) (lo_v (le_tup (la_cons (le_ix (lo_n 2) (lo_v (le_add (lo_n 3) (lo_v (le_int))))) (la_cons (le_ix (lo_n 2) (lo_n 3)) (la_nil))))))) (lo_v (le_cut (lo_n 2) (lp_some (le_add (lo_n 3) (lo_v (le_int)))) lp_none))) (la_nil)))))))))))
/-! is_formed -/
def b_is_formed : M Fl := sSeq (sIf (Lw.tOr (Lw.tNot (tB (m1 (dIsT "tuple") (.n 0)))) (Lw.tOr (tB (m2 dNe (.v (mBi dLen [.n 0])) (.v (ret (.int 2))))) (Lw.tNot (tB (m1 (dIsT "str") (.v (m2 dIx (.n 0) (.v (ret (.int 0)))))))))) (sRet (ret (.bl false))) (sNx)) (sRet (mAnd (m2 dIn (.v (m2 dIx (.n 0) (.v (ret (.int 0))))) (.v (ret (.tup [.str "first", .str "last", .str "out", .str "in"])))) (mCall f_is_among (aCons (m2 dIx (.n 0) (.v (ret (.int 1)))) (aCons (ret (.int 0)) (aCons (ret (.int 40)) (aNil)))))))
def f_is_formed : Fn := fnOf 1 1 b_is_formed
theorem sc_is_formed : FnScope ["value"] ["value"] (defScope (top 28)) := ⟨rfl, rfl, rfl, by decide +kernel, rfl, by decide +kernel, by decide +kernel⟩
theorem ok_is_formed (G : Gs P K mg base) {f : Addr} {fd : FuncData} (F : FunD K "is_formed" "is_formed" (defArgs (top 28)) (defBody (top 28)) (defScope (top 28)) [] [] f fd) (F_is_among : FnM P w K mg base T 2 "is_among" 3 f_is_among) : FnG P w K mg base T 3 f 1 f_is_formed :=
  okM F sc_is_formed (fun _ _ _ _ _ _ us hl => match us, hl with | [_], _ => rfl) (fun cdv A outer s H E c eT gd hr => by
    have hN := sc_is_formed.nd
    exact lb_cons (ls_if (lt_w (lw_or (lt_not (lt_b (le_isT ask_tuple G.m_isinstance G.m_tuple (lo_n 0)))) (lw_or (lt_cmp (op_neD hr.units) sm_ne (nomark _) (lo_v (le_len G.m_len (lo_n 0))) (lo_v (le_int))) (lw_or1 (lt_not (lt_b (le_isT ask_str G.m_isinstance G.m_str (lo_v (le_ix (lo_n 0) (lo_v (le_int))))))))))) (lb_one (ls_ret (le_bl))) (lb_nil)) (lb_one (ls_ret (le_and (le_cmp (op_inA (units1 hr)) sm_in rfl (lo_v (le_ix (lo_n 0) (lo_v (le_int)))) (lo_v (le_gtup (x := "KINDS") (vs := ["first", "last", "out", "in"]) G.t_KINDS))) (le_one (le_call (F_is_among.cast eT) (hr.mono (by decide)) gd (takes_of rfl rfl rfl rfl) (la_cons (le_ix (lo_n 0) (lo_v (le_int))) (la_cons (le_int) (la_cons (le_gint G.c_MOST_LETTERS) (la_nil))))))))))
/-! can_move -/
def b_can_move : M Fl := sSeq (sAsg (mV 1) (gU [gV 3, gV 4])) (sSeq (sAsg (m1 (dSlot slots "letters") (.n 0)) (gV 2)) (sSeq (sIf (tB (m2 dEq (.n 3) (.v (ret (.str "in"))))) (sRet (m2 dLe (.n 4) (.v (mBi dLen [.n 2])))) (sNx)) (sSeq (sIf (tB (m2 dEq (.n 3) (.v (ret (.str "out"))))) (sRet (m2 dEq (.v (mCut (.n 2) (some (mV 4)) (some (m2 dAdd (.n 4) (.v (m1 (dSlot slots "size") (.n 0))))))) (.v (mCall f_fall (aCons (m1 (dSlot slots "size") (.n 0)) (aNil)))))) (sNx)) (sSeq (sIf (tB (m2 dGt (.v (m2 dAdd (.n 4) (.v (ret (.int 3))))) (.v (mBi dLen [.n 2])))) (sRet (ret (.bl false))) (sNx)) (sSeq (sAsg (mCut (.n 2) (some (mV 4)) (some (m2 dAdd (.n 4) (.v (ret (.int 3)))))) (gU [gV 5, gV 6, gV 7])) (sSeq (sIf (tB (m2 dEq (.n 3) (.v (ret (.str "first"))))) (sRet (mOr (mCh dLe dLt (mV 5) (mV 7) (mV 6)) (mCh dLe dLt (mV 6) (mV 7) (mV 5)))) (sNx)) (sRet (mOr (mCh dLt dLe (mV 6) (mV 5) (mV 7)) (mCh dLt dLe (mV 7) (mV 5) (mV 6))))))))))
def f_can_move : Fn := fnOf 8 2 b_can_move
theorem sc_can_move : FnScope ["word", "move", "letters", "kind", "place", "one", "two", "three"] ["word", "move"] (defScope (top 29)) := ⟨rfl, rfl, rfl, by decide +kernel, rfl, by decide +kernel, by decide +kernel⟩
theorem ok_can_move (G : Gs P K mg base) {f : Addr} {fd : FuncData} (F : FunD K "can_move" "can_move" (defArgs (top 29)) (defBody (top 29)) (defScope (top 29)) [] [] f fd) (F_fall : FnM P w K mg base T 1 "fall" 1 f_fall) : FnG P w K mg base T 2 f 2 f_can_move :=
  okM F sc_can_move (fun _ _ _ _ _ _ us hl => match us, hl with | [_, _], _ => rfl) (fun cdv A outer s H E c eT gd hr => by
    have hN := sc_can_move.nd
    exact lb_cons (ls_asg (le_v 1) (lg_u rfl (lgs_cons (lg_v 3 hN) (lgs_cons (lg_v 4 hN) (lgs_nil))))) (lb_cons (ls_set 2 hN (le_slot (f := "letters") G.slC (lo_n 0))) (lb_cons (ls_if (lt_cmp (op_eqD hr.units) sm_eq (nomark _) (lo_n 3) (lo_v (le_str))) (lb_one (ls_ret (le_cmp op_le sm_le (nomark _) (lo_n 4) (lo_v (le_len G.m_len (lo_n 2)))))) (lb_nil)) (lb_cons (ls_if (lt_cmp (op_eqD hr.units) sm_eq (nomark _) (lo_n 3) (lo_v (le_str))) (lb_one (ls_ret (le_cmp (op_eqD hr.units) sm_eq (nomark _) (lo_v (le_cut (lo_n 2) (lp_some (le_v 4)) (lp_some (le_add (lo_n 4) (lo_v (le_slot (f := "size") G.slC (lo_n 0))))))) (lo_v (le_call (F_fall.cast eT) (hr.mono (by decide)) gd (takes_of rfl rfl rfl rfl) (la_cons (le_slot (f := "size") G.slC (lo_n 0)) (la_nil))))))) (lb_nil)) (lb_cons (ls_if (lt_cmp op_gt sm_gt (nomark _) (lo_v (le_add (lo_n 4) (lo_v (le_int)))) (lo_v (le_len G.m_len (lo_n 2)))) (lb_one (ls_ret (le_bl))) (lb_nil)) (lb_cons (ls_asg (le_cut (lo_n 2) (lp_some (le_v 4)) (lp_some (le_add (lo_n 4) (lo_v (le_int))))) (lg_u rfl (lgs_cons (lg_v 5 hN) (lgs_cons (lg_v 6 hN) (lgs_cons (lg_v 7 hN) (lgs_nil)))))) (lb_cons (ls_if (lt_cmp (op_eqD hr.units) sm_eq (nomark _) (lo_n 3) (lo_v (le_str))) (lb_one (ls_ret (le_or (le_chain op_le op_lt sm_le sm_lt (le_v 5) (le_v 7) (le_v 6)) (le_one (le_chain op_le op_lt sm_le sm_lt (le_v 6) (le_v 7) (le_v 5)))))) (lb_nil)) (lb_one (ls_ret (le_or (le_chain op_lt op_le sm_lt sm_le (le_v 6) (le_v 5) (le_v 7)) (le_one (le_chain op_lt op_le sm_lt sm_le (le_v 7) (le_v 5) (le_v 6)))))))))))))
/-! moved_at -/
def b_moved_at : M Fl := sSeq (sIf (Lw.tOr (Lw.tNot (tB (mCall f_is_formed (aCons (mV 1) (aNil))))) (Lw.tNot (tB (mCall f_can_move (aCons (mV 0) (aCons (mV 1) (aNil))))))) (sRaise (mExc "BadMove" (aCons (mV 2) (aNil)))) (sNx)) (sRet (mCall f_made (aCons (mV 0) (aCons (mV 1) (aNil)))))
def f_moved_at : Fn := fnOf 3 3 b_moved_at
theorem sc_moved_at : FnScope ["word", "move", "number"] ["word", "move", "number"] (defScope (top 31)) := ⟨rfl, rfl, rfl, by decide +kernel, rfl, by decide +kernel, by decide +kernel⟩
theorem ok_moved_at (G : Gs P K mg base) {f : Addr} {fd : FuncData} (F : FunD K "moved_at" "moved_at" (defArgs (top 31)) (defBody (top 31)) (defScope (top 31)) [] [] f fd) (F_can_move : FnM P w K mg base T 2 "can_move" 2 f_can_move) (F_is_formed : FnM P w K mg base T 3 "is_formed" 1 f_is_formed) (F_made : FnM P w K mg base T 6 "made" 2 f_made) : FnG P w K mg base T 7 f 3 f_moved_at :=
  okM F sc_moved_at (fun _ _ _ _ _ _ us hl => match us, hl with | [_, _, _], _ => rfl) (fun cdv A outer s H E c eT gd hr => by
    have hN := sc_moved_at.nd
    exact lb_cons (ls_if (lt_w (lw_or (lt_not (lt_b (le_call (F_is_formed.cast eT) (hr.mono (by decide)) gd (takes_of rfl rfl rfl rfl) (la_cons (le_v 1) (la_nil))))) (lw_or1 (lt_not (lt_b (le_call (F_can_move.cast eT) (hr.mono (by decide)) gd (takes_of rfl rfl rfl rfl) (la_cons (le_v 0) (la_cons (le_v 1) (la_nil))))))))) (lb_one (ls_raise rfl (takes_of rfl rfl rfl rfl) (lx_1 (cn := "BadMove") G.x_BadMove rfl G.tp hr (la_cons (le_v 2) (la_nil))))) (lb_nil)) (lb_one (ls_ret (le_call (F_made.cast eT) (hr.mono (by decide)) gd (takes_of rfl rfl rfl rfl) (la_cons (le_v 0) (la_cons (le_v 1) (la_nil)))))))
/-! walked -/
def b_walked : M Fl := sSeq (sIf (Lw.tNot (tB (mCall f_is_row (aCons (mV 1) (aNil))))) (sRaise (mExc "BadMove" (aCons (ret .non) (aNil)))) (sNx)) (sSeq (sFor (bnd (mV 1) (fun a => opt (iEn a))) (gT [gV 2, gV 3]) (sAsg (mCall f_moved_at (aCons (mV 0) (aCons (mV 3) (aCons (mV 2) (aNil))))) (gV 0))) (sRet (mV 0)))
def f_walked : Fn := fnOf 4 2 b_walked
theorem sc_walked : FnScope ["word", "moves", "number", "move"] ["word", "moves"] (defScope (top 32)) := ⟨rfl, rfl, rfl, by decide +kernel, rfl, by decide +kernel, by decide +kernel⟩
theorem ok_walked (G : Gs P K mg base) {f : Addr} {fd : FuncData} (F : FunD K "walked" "walked" (defArgs (top 32)) (defBody (top 32)) (defScope (top 32)) [] [] f fd) (F_is_row : FnM P w K mg base T 1 "is_row" 1 f_is_row) (F_moved_at : FnM P w K mg base T 7 "moved_at" 3 f_moved_at) : FnG P w K mg base T 8 f 2 f_walked :=
  okM F sc_walked (fun _ _ _ _ _ _ us hl => match us, hl with | [_, _], _ => rfl) (fun cdv A outer s H E c eT gd hr => by
    have hN := sc_walked.nd
    exact lb_cons (ls_if (lt_not (lt_b (le_call (F_is_row.cast eT) (hr.mono (by decide)) gd (takes_of rfl rfl rfl rfl) (la_cons (le_v 1) (la_nil))))) (lb_one (ls_raise rfl (takes_of rfl rfl rfl rfl) (lx_1 (cn := "BadMove") G.x_BadMove rfl G.tp hr (la_cons (le_non) (la_nil))))) (lb_nil)) (lb_cons (ls_for (passes_of rfl) rfl (li_enum G.m_enumerate (le_v 1)) (lg_t rfl (lgs_cons (lg_v 2 hN) (lgs_cons (lg_v 3 hN) (lgs_nil)))) (lb_one (ls_set 0 hN (le_call (F_moved_at.cast eT) (hr.mono (by decide)) gd (takes_of rfl rfl rfl rfl) (la_cons (le_v 0) (la_cons (le_v 3) (la_cons (le_v 2) (la_nil)))))))) (lb_one (ls_ret (le_v 0)))))
/-! returned -/
def b_returned : M Fl := sSeq (sAsg (ret (.dct [(.str "in", .str "out"), (.str "out", .str "in")])) (gV 1)) (sRet (mBi dTuple [.v (mF (mLc (bnd (mBi dList [.n 0]) (fun a => opt (if lenD a ≤ line then iRevD a else none))) (gT [gV 2, gV 3]) (tTrue) (mTup (aCons (mGetX (mV 1) (mV 2) (mV 2)) (aCons (mV 3) (aNil)))) [2, 3]))]))
def f_returned : Fn := fnOf 4 1 b_returned
theorem sc_returned : FnScope ["moves", "others", "kind", "place"] ["moves"] (defScope (top 33)) := ⟨rfl, rfl, rfl, by decide +kernel, rfl, by decide +kernel, by decide +kernel⟩
theorem ok_returned (G : Gs P K mg base) {f : Addr} {fd : FuncData} (F : FunD K "returned" "returned" (defArgs (top 33)) (defBody (top 33)) (defScope (top 33)) [] [] f fd) : FnG P w K mg base T 1 f 1 f_returned :=
  okM F sc_returned (fun _ _ _ _ _ _ us hl => match us, hl with | [_], _ => rfl) (fun cdv A outer s H E c eT gd hr => by
    have hN := sc_returned.nd
    exact lb_cons (ls_set 1 hN (le_dctC [(.inr "in", V.str "out"), (.inr "out", V.str "in")] [.str "in", .str "out"] [.str "out", .str "in"] (pps_cons pe_str pe_str (pps_cons pe_str pe_str (pps_nil))) (fun _ => .cons (.str "in") (.cons (.str "out") (.nil))) (fun _ => .cons (.str "out") (.cons (.str "in") (.nil))))) (lb_one (ls_ret (le_tuple G.m_tuple (lo_v (le_f (lf_lc [("kind", 2), ("place", 3)] rfl hN (li_rev G.m_reversed (le_list G.m_list (lo_n 0))) (blkOk_by rfl) (fun _ _ _ _ _ c1 e1 => lg_t rfl (lgs_cons (lg_v 2 hN (hvs := by decide)) (lgs_cons (lg_v 3 hN (hvs := by decide)) (lgs_nil)))) (fun _ _ _ _ _ c1 e1 => lq_nil) (fun _ _ _ _ _ c1 e1 => le_tup (la_cons (le_dgetX (units_1 hr) (le_v 1) (le_v 2) (le_v 2)) (la_cons (le_v 3) (la_nil)))))))))))
/-! Word.__eq__ -/
def b_Word___eq__ : M Fl := sRet (mAnd (m1 (dIsC clsN "Word") (.n 1)) (m2 dEq (.v (mTup (aCons (m1 (dSlot slots "size") (.n 0)) (aCons (m1 (dSlot slots "letters") (.n 0)) (aNil))))) (.v (mTup (aCons (m1 (dSlot slots "size") (.n 1)) (aCons (m1 (dSlot slots "letters") (.n 1)) (aNil)))))))
def f_Word___eq__ : Fn := fnOf 2 2 b_Word___eq__
theorem sc_Word___eq__ : FnScope ["self", "other"] ["self", "other"] (defScope (cls1 (top 24) 5)) := ⟨rfl, rfl, rfl, by decide +kernel, rfl, by decide +kernel, by decide +kernel⟩
theorem ok_Word___eq__ (G : Gs P K mg base) {f : Addr} {fd : FuncData} (F : FunD K "__eq__" "Word.__eq__" (defArgs (cls1 (top 24) 5)) (defBody (cls1 (top 24) 5)) (defScope (cls1 (top 24) 5)) [] [] f fd) : FnG P w K mg base T 1 f 2 f_Word___eq__ :=
  okM F sc_Word___eq__ (fun _ _ _ _ _ _ us hl => match us, hl with | [_, _], _ => rfl) (fun cdv A outer s H E c eT gd hr => by
    have hN := sc_Word___eq__.nd
    exact lb_one (ls_ret (le_and (le_isO (G.isC "Word" (by decide)) (G.isB "Word" (by decide)) G.m_isinstance (G.gC "Word" (by decide)) (lo_n 1)) (le_one (le_cmp (op_eqD hr.units) sm_eq (nomark _) (lo_v (le_tup (la_cons (le_slot (f := "size") G.slC (lo_n 0)) (la_cons (le_slot (f := "letters") G.slC (lo_n 0)) (la_nil))))) (lo_v (le_tup (la_cons (le_slot (f := "size") G.slC (lo_n 1)) (la_cons (le_slot (f := "letters") G.slC (lo_n 1)) (la_nil))))))))))
/-! _law_like -/
def b__law_like : M Fl := sRet (m2 dEq (.v (mBi dRepr [.n 0])) (.v (mBi dRepr [.n 1])))
def f__law_like : Fn := fnOf 2 2 b__law_like
theorem sc__law_like : FnScope ["told", "due"] ["told", "due"] (defScope (top 43)) := ⟨rfl, rfl, rfl, by decide +kernel, rfl, by decide +kernel, by decide +kernel⟩
theorem ok__law_like (G : Gs P K mg base) {f : Addr} {fd : FuncData} (F : FunD K "_law_like" "_law_like" (defArgs (top 43)) (defBody (top 43)) (defScope (top 43)) [] [] f fd) : FnG P w K mg base T 1 f 2 f__law_like :=
  okM F sc__law_like (fun _ _ _ _ _ _ us hl => match us, hl with | [_, _], _ => rfl) (fun cdv A outer s H E c eT gd hr => by
    have hN := sc__law_like.nd
    exact lb_one (ls_ret (le_cmp (op_eqD hr.units) sm_eq (nomark _) (lo_v (le_repr gd hr.units G.m_repr (lo_n 0))) (lo_v (le_repr gd hr.units G.m_repr (lo_n 1))))))
/-! _law_stopped -/
def b__law_stopped : M Fl := sSeq (sFor (bnd (mV 2) (fun a => opt (iEn a))) (gT [gV 3, gV 4]) (sSeq (sAsg (mCall f__law_moved (aCons (mV 0) (aCons (mV 1) (aCons (mV 4) (aNil))))) (gV 1)) (sSeq (sIf (tB (m2 dIsN (.n 1) (.v (ret .non)))) (sRet (mTup (aCons (ret (.str "move")) (aCons (mV 3) (aNil))))) (sNx)) (sIf (tB (m2 dGt (.v (mBi dLen [.n 1])) (.v (ret (.int 40))))) (sRet (mTup (aCons (ret (.str "great")) (aCons (ret (.int 40)) (aNil))))) (sNx))))) (sRet (ret .non))
def f__law_stopped : Fn := fnOf 5 3 b__law_stopped
theorem sc__law_stopped : FnScope ["size", "letters", "row", "number", "move"] ["size", "letters", "row"] (defScope (top 47)) := ⟨rfl, rfl, rfl, by decide +kernel, rfl, by decide +kernel, by decide +kernel⟩
theorem ok__law_stopped (G : Gs P K mg base) {f : Addr} {fd : FuncData} (F : FunD K "_law_stopped" "_law_stopped" (defArgs (top 47)) (defBody (top 47)) (defScope (top 47)) [] [] f fd) (F__law_moved : FnM P w K mg base T 2 "_law_moved" 3 f__law_moved) : FnG P w K mg base T 3 f 3 f__law_stopped :=
  okM F sc__law_stopped (fun _ _ _ _ _ _ us hl => match us, hl with | [_, _, _], _ => rfl) (fun cdv A outer s H E c eT gd hr => by
    have hN := sc__law_stopped.nd
    exact lb_cons (ls_for (passes_of rfl) rfl (li_enum G.m_enumerate (le_v 2)) (lg_t rfl (lgs_cons (lg_v 3 hN) (lgs_cons (lg_v 4 hN) (lgs_nil)))) (lb_cons (ls_set 1 hN (le_call (F__law_moved.cast eT) (hr.mono (by decide)) gd (takes_of rfl rfl rfl rfl) (la_cons (le_v 0) (la_cons (le_v 1) (la_cons (le_v 4) (la_nil)))))) (lb_cons (ls_if (lt_cmp op_isN sm_isN (nomark _) (lo_n 1) (lo_v (le_non))) (lb_one (ls_ret (le_tup (la_cons (le_str) (la_cons (le_v 3) (la_nil)))))) (lb_nil)) (lb_one (ls_if (lt_cmp op_gt sm_gt (nomark _) (lo_v (le_len G.m_len (lo_n 1))) (lo_v (le_int))) (lb_one (ls_ret (le_tup (la_cons (le_str) (la_cons (le_int) (la_nil)))))) (lb_nil)))))) (lb_one (ls_ret (le_non))))
/-! _law_heard -/
def h__law_heard (am : M D) : M Fl := sSeq (sAsg (mTup (aCons (mLst (aNil)) (aCons (ret .non) (aNil)))) (gT [gV 6, gV 7])) (sSeq (sTry excs 1 7 (sAsg (mLst (aCons (am) (aNil))) (gV 6))) (sSeq (sIf (tB (m2 dIsN (.n 7) (.v (ret .non)))) (sRet (mV 6)) (sNx)) (sSeq (sIf (tB (m1 (dIsP excs (· == "Stuck")) (.n 7))) (sRet (mIf (Lw.tNot (tB (m1 (dIsP excs isVal) (.n 7)))) (mTup (aCons (ret (.str "stuck")) (aCons (m1 (dFld excs "place") (.n 7)) (aNil)))) (ret (.str "odd")))) (sNx)) (sSeq (sIf (tB (m1 (dIsP excs (· == "TooGreat")) (.n 7))) (sRet (mIf (Lw.tNot (tB (m1 (dIsP excs isVal) (.n 7)))) (mTup (aCons (ret (.str "great")) (aCons (m1 (dFld excs "most") (.n 7)) (aNil)))) (ret (.str "odd")))) (sNx)) (sSeq (sAsg (mOr (m1 (dIsP excs (· == "BadSize")) (.n 7)) (mOr (m1 (dIsP excs (· == "BadIndex")) (.n 7)) (m1 (dIsP excs (· == "BadNumber")) (.n 7)))) (gV 2)) (sSeq (sAsg (mLst (aCons (m1 (dIsP excs (· == "BadSize")) (.n 7)) (aCons (m1 (dIsP excs (· == "BadLetters")) (.n 7)) (aCons (m1 (dIsP excs (· == "BadIndex")) (.n 7)) (aNil))))) (gV 3)) (sSeq (sAsg (m2 dAdd (.n 3) (.v (mLst (aCons (m1 (dIsP excs (· == "BadNumber")) (.n 7)) (aCons (m1 (dIsP excs (· == "BadDeed")) (.n 7)) (aCons (m1 (dIsP excs (· == "BadTable")) (.n 7)) (aNil))))))) (gV 3)) (sSeq (sAsg (m2 dAdd (.n 3) (.v (mLst (aCons (m1 (dIsP excs (· == "BadMove")) (.n 7)) (aCons (m1 (dIsP excs (· == "BadShape")) (.n 7)) (aCons (m1 (dIsP excs (· == "BadRecording")) (.n 7)) (aNil))))))) (gV 3)) (sSeq (sAsg (m2 dAdd (.n 3) (.v (mLst (aCons (m1 (dIsP excs (· == "OtherSize")) (.n 7)) (aCons (m1 (dIsP excs (· == "OtherHouse")) (.n 7)) (aNil)))))) (gV 3)) (sSeq (sAsg (mLst (aCons (ret (.str "size")) (aCons (ret (.str "letters")) (aCons (ret (.str "index")) (aCons (ret (.str "number")) (aCons (ret (.str "deed")) (aCons (ret (.str "table")) (aCons (ret (.str "move")) (aCons (ret (.str "shape")) (aCons (ret (.str "recording")) (aNil))))))))))) (gV 4)) (sSeq (sAsg (m2 dAdd (.n 4) (.v (mLst (aCons (ret (.str "othersize")) (aCons (ret (.str "otherhouse")) (aNil)))))) (gV 4)) (sSeq (sAsg (mF (mLc (bnd (aCons (mV 4) (aCons (mV 3) (aNil))) (fun ds => opt (iZ ds))) (gT [gV 8, gV 9]) (tB (mV 9)) (mV 8) [8, 9])) (gV 5)) (sSeq (sIf (Lw.tOr (tB (m2 dNe (.v (mBi dLen [.n 5])) (.v (ret (.int 1))))) (Lw.tNot (tB (m1 (dIsP excs isVal) (.n 7))))) (sRet (ret (.str "odd"))) (sNx)) (sSeq (sIf (Lw.tOr (tB (mV 2)) (tB (m2 dEq (.v (m2 dIx (.n 5) (.v (ret (.int 0))))) (.v (ret (.str "shape")))))) (sRet (mTup (aCons (m2 dIx (.n 5) (.v (ret (.int 0)))) (aCons (m1 (dFld excs "value") (.n 7)) (aNil))))) (sNx)) (sSeq (sIf (tB (m2 dIn (.v (m2 dIx (.n 5) (.v (ret (.int 0))))) (.v (mTup (aCons (ret (.str "letters")) (aCons (ret (.str "deed")) (aCons (ret (.str "move")) (aNil)))))))) (sRet (mTup (aCons (m2 dIx (.n 5) (.v (ret (.int 0)))) (aCons (m1 (dFld excs "place") (.n 7)) (aNil))))) (sNx)) (sRet (mIf (tB (m2 dEq (.v (m2 dIx (.n 5) (.v (ret (.int 0))))) (.v (ret (.str "table"))))) (mTup (aCons (ret (.str "table")) (aCons (m1 (dFld excs "row") (.n 7)) (aNil)))) (m2 dIx (.n 5) (.v (ret (.int 0)))))))))))))))))))))
theorem sc__law_heard : FnScope ["call", "e", "valued", "kinds", "words", "found", "told", "error", "word", "is_so"] ["call"] (defScope (top 42)) := ⟨rfl, rfl, rfl, by decide +kernel, rfl, by decide +kernel, by decide +kernel⟩
theorem ok__law_heard (G : Gs P K mg base) {f : Addr} {fd : FuncData} (F : FunD K "_law_heard" "_law_heard" (defArgs (top 42)) (defBody (top 42)) (defScope (top 42)) [] [] f fd) (hm : mg "_law_heard" = some (.ref f)) : HearM P w K mg base T 1 "_law_heard" "call" 9 h__law_heard := by
  refine ⟨⟨f, fd, _, _, _, ["call", "e", "valued", "kinds", "words", "found", "told", "error", "word", "is_so"], hm, F.kp, F, sc__law_heard, fun _ _ _ _ _ _ us hl => match us, hl with | [_], _ => rfl, rfl, Or.inl rfl, rfl, ?_⟩⟩
  intro cdv A outer s H cZ am eT gd hr hact
  have hN := sc__law_heard.nd
  exact lb_cons (ls_par 6 7 rfl hN (la_cons (le_lst (la_nil)) (la_cons (le_non) (la_nil)))) (lb_cons (ls_try rfl rfl rfl hN rfl rfl (by decide) rfl rfl rfl rfl rfl rfl rfl rfl rfl rfl G.gL G.gS G.gT G.cat (fun W2 pn xe tk po => lb_one (ls_set 6 hN (le_lst (la_cons (hact _ _ _ _ _ tk) (la_nil)))))) (lb_cons (ls_if (lt_cmp op_isN sm_isN (nomark _) (lo_n 7) (lo_v (le_non))) (lb_one (ls_ret (le_v 6))) (lb_nil)) (lb_cons (ls_if (lt_b (le_isX (G.isX "Stuck" (by decide)) G.m_isinstance (G.gX "Stuck" (by decide)) (lo_n 7))) (lb_one (ls_ret (le_if (lt_not (lt_b (le_isXT (t := "ValueError") G.isV G.m_isinstance G.m_ValueError (lo_n 7)))) (le_tup (la_cons (le_str) (la_cons (le_fld G.exA (lo_n 7)) (la_nil)))) (le_str)))) (lb_nil)) (lb_cons (ls_if (lt_b (le_isX (G.isX "TooGreat" (by decide)) G.m_isinstance (G.gX "TooGreat" (by decide)) (lo_n 7))) (lb_one (ls_ret (le_if (lt_not (lt_b (le_isXT (t := "ValueError") G.isV G.m_isinstance G.m_ValueError (lo_n 7)))) (le_tup (la_cons (le_str) (la_cons (le_fld G.exA (lo_n 7)) (la_nil)))) (le_str)))) (lb_nil)) (lb_cons (ls_set 2 hN (le_or (le_isX (G.isX "BadSize" (by decide)) G.m_isinstance (G.gX "BadSize" (by decide)) (lo_n 7)) (le_or (le_isX (G.isX "BadIndex" (by decide)) G.m_isinstance (G.gX "BadIndex" (by decide)) (lo_n 7)) (le_one (le_isX (G.isX "BadNumber" (by decide)) G.m_isinstance (G.gX "BadNumber" (by decide)) (lo_n 7)))))) (lb_cons (ls_set 3 hN (le_lst (la_cons (le_isX (G.isX "BadSize" (by decide)) G.m_isinstance (G.gX "BadSize" (by decide)) (lo_n 7)) (la_cons (le_isX (G.isX "BadLetters" (by decide)) G.m_isinstance (G.gX "BadLetters" (by decide)) (lo_n 7)) (la_cons (le_isX (G.isX "BadIndex" (by decide)) G.m_isinstance (G.gX "BadIndex" (by decide)) (lo_n 7)) (la_nil)))))) (lb_cons (ls_set 3 hN (le_add (lo_n 3) (lo_v (le_lst (la_cons (le_isX (G.isX "BadNumber" (by decide)) G.m_isinstance (G.gX "BadNumber" (by decide)) (lo_n 7)) (la_cons (le_isX (G.isX "BadDeed" (by decide)) G.m_isinstance (G.gX "BadDeed" (by decide)) (lo_n 7)) (la_cons (le_isX (G.isX "BadTable" (by decide)) G.m_isinstance (G.gX "BadTable" (by decide)) (lo_n 7)) (la_nil)))))))) (lb_cons (ls_set 3 hN (le_add (lo_n 3) (lo_v (le_lst (la_cons (le_isX (G.isX "BadMove" (by decide)) G.m_isinstance (G.gX "BadMove" (by decide)) (lo_n 7)) (la_cons (le_isX (G.isX "BadShape" (by decide)) G.m_isinstance (G.gX "BadShape" (by decide)) (lo_n 7)) (la_cons (le_isX (G.isX "BadRecording" (by decide)) G.m_isinstance (G.gX "BadRecording" (by decide)) (lo_n 7)) (la_nil)))))))) (lb_cons (ls_set 3 hN (le_add (lo_n 3) (lo_v (le_lst (la_cons (le_isX (G.isX "OtherSize" (by decide)) G.m_isinstance (G.gX "OtherSize" (by decide)) (lo_n 7)) (la_cons (le_isX (G.isX "OtherHouse" (by decide)) G.m_isinstance (G.gX "OtherHouse" (by decide)) (lo_n 7)) (la_nil))))))) (lb_cons (ls_set 4 hN (le_lst (la_cons (le_str) (la_cons (le_str) (la_cons (le_str) (la_cons (le_str) (la_cons (le_str) (la_cons (le_str) (la_cons (le_str) (la_cons (le_str) (la_cons (le_str) (la_nil)))))))))))) (lb_cons (ls_set 4 hN (le_add (lo_n 4) (lo_v (le_lst (la_cons (le_str) (la_cons (le_str) (la_nil))))))) (lb_cons (ls_setF (ls_lc 5 [("word", 8), ("is_so", 9)] rfl hN rfl (li_zip G.m_zip (la_cons (le_v 4) (la_cons (le_v 3) (la_nil)))) (blkOk_by rfl) (fun _ _ _ _ _ c1 e1 => lg_t rfl (lgs_cons (lg_v 8 hN (hvs := by decide)) (lgs_cons (lg_v 9 hN (hvs := by decide)) (lgs_nil)))) (fun _ _ _ _ _ c1 e1 => lq_one (lt_b (le_v 9))) (fun _ _ _ _ _ c1 e1 => le_v 8))) (lb_cons (ls_if (lt_w (lw_or (lt_cmp (op_neD hr.units) sm_ne (nomark _) (lo_v (le_len G.m_len (lo_n 5))) (lo_v (le_int))) (lw_or1 (lt_not (lt_b (le_isXT (t := "ValueError") G.isV G.m_isinstance G.m_ValueError (lo_n 7))))))) (lb_one (ls_ret (le_str))) (lb_nil)) (lb_cons (ls_if (lt_w (lw_or (lt_b (le_v 2)) (lw_or1 (lt_cmp (op_eqD hr.units) sm_eq (nomark _) (lo_v (le_ix (lo_n 5) (lo_v (le_int)))) (lo_v (le_str)))))) (lb_one (ls_ret (le_tup (la_cons (le_ix (lo_n 5) (lo_v (le_int))) (la_cons (le_fld G.exA (lo_n 7)) (la_nil)))))) (lb_nil)) (lb_cons (ls_if (lt_cmp (op_inA (units1 hr)) sm_in rfl (lo_v (le_ix (lo_n 5) (lo_v (le_int)))) (lo_v (le_tup (la_cons (le_str) (la_cons (le_str) (la_cons (le_str) (la_nil))))))) (lb_one (ls_ret (le_tup (la_cons (le_ix (lo_n 5) (lo_v (le_int))) (la_cons (le_fld G.exA (lo_n 7)) (la_nil)))))) (lb_nil)) (lb_one (ls_ret (le_if (lt_cmp (op_eqD hr.units) sm_eq (nomark _) (lo_v (le_ix (lo_n 5) (lo_v (le_int)))) (lo_v (le_str))) (le_tup (la_cons (le_str) (la_cons (le_fld G.exA (lo_n 7)) (la_nil)))) (le_ix (lo_n 5) (lo_v (le_int)))))))))))))))))))))
/-! _law_is_word -/
def b__law_is_word : M Fl := sRet (mAnd (m1 (dIsC clsN "Word") (.n 0)) (m2 dEq (.v (mBi dRepr [.v (mTup (aCons (m1 (dSlot slots "size") (.n 0)) (aCons (m1 (dSlot slots "letters") (.n 0)) (aNil))))])) (.v (mBi dRepr [.v (mTup (aCons (mV 1) (aCons (mBi dTuple [.n 2]) (aNil))))]))))
def f__law_is_word : Fn := fnOf 3 3 b__law_is_word
theorem sc__law_is_word : FnScope ["told", "size", "letters"] ["told", "size", "letters"] (defScope (top 41)) := ⟨rfl, rfl, rfl, by decide +kernel, rfl, by decide +kernel, by decide +kernel⟩
theorem ok__law_is_word (G : Gs P K mg base) {f : Addr} {fd : FuncData} (F : FunD K "_law_is_word" "_law_is_word" (defArgs (top 41)) (defBody (top 41)) (defScope (top 41)) [] [] f fd) : FnG P w K mg base T 1 f 3 f__law_is_word :=
  okM F sc__law_is_word (fun _ _ _ _ _ _ us hl => match us, hl with | [_, _, _], _ => rfl) (fun cdv A outer s H E c eT gd hr => by
    have hN := sc__law_is_word.nd
    exact lb_one (ls_ret (le_and (le_isO (G.isC "Word" (by decide)) (G.isB "Word" (by decide)) G.m_isinstance (G.gC "Word" (by decide)) (lo_n 0)) (le_one (le_cmp (op_eqD hr.units) sm_eq (nomark _) (lo_v (le_repr gd hr.units G.m_repr (lo_v (le_tup (la_cons (le_slot (f := "size") G.slC (lo_n 0)) (la_cons (le_slot (f := "letters") G.slC (lo_n 0)) (la_nil))))))) (lo_v (le_repr gd hr.units G.m_repr (lo_v (le_tup (la_cons (le_v 1) (la_cons (le_tuple G.m_tuple (lo_n 2)) (la_nil))))))))))))
/-! law -/
noncomputable def b_law : M Fl := sSeq (sAsg (mCall f__law_begun (aCons (mV 0) (aNil))) (gV 1)) (sSeq (sFor (mRg1 (ret (.int 4))) (gV 2) (sSeq (sAsg (mCall f__law_size (aCons (mV 1) (aNil))) (gV 3)) (sSeq (sAsg (mCall f__law_letters (aCons (mV 1) (aCons (mV 3) (aCons (m2 dIx (.v (mLst (aCons (ret (.int 9)) (aCons (ret (.int 38)) (aNil))))) (.v (mCall f__law_draw (aCons (mV 1) (aCons (ret (.int 2)) (aNil)))))) (aNil))))) (gV 4)) (sSeq (sAsg (mCall f_Word___init__ (aCons (mV 3) (aCons (mV 4) (aNil)))) (gV 5)) (sSeq (sAsg (mCall f__law_moves (aCons (mV 1) (aCons (mV 3) (aCons (mV 4) (aCons (mCall f__law_draw (aCons (mV 1) (aCons (ret (.int 16)) (aNil)))) (aNil)))))) (gU [gV 14, gV 15])) (sSeq (sAsg (m2 dIx (.v (mLst (aCons (mV 14) (aCons (mBi dTuple [.n 14]) (aNil))))) (.v (mCall f__law_draw (aCons (mV 1) (aCons (ret (.int 2)) (aNil)))))) (gV 6)) (sSeq (sAsg (mCall f_walked (aCons (mV 5) (aCons (mV 6) (aNil)))) (gV 7)) (sSeq (sIf (Lw.tOr (Lw.tNot (tB (mCall f__law_is_word (aCons (mV 7) (aCons (mV 3) (aCons (mV 15) (aNil))))))) (tB (m2 dNe (.v (mBi dList [.n 6])) (.n 14)))) (sRet (ret (.bl false))) (sNx)) (sSeq (sAsg (mCall f_returned (aCons (mV 6) (aNil))) (gV 8)) (sSeq (sAsg (ret (.dct [(.str "in", .str "out"), (.str "out", .str "in"), (.str "first", .str "first"), (.str "last", .str "last")])) (gV 9)) (sSeq (sIf (Lw.tNot (tB (mCall f__law_like (aCons (mV 8) (aCons (mBi dTuple [.v (mF (mLc (bnd (m1 dBack (.n 14)) (fun a => opt (items a))) (gT [gV 18, gV 11]) (tTrue) (mTup (aCons (mGetI (mV 9) (mV 18)) (aCons (mV 11) (aNil)))) [18, 11]))]) (aNil)))))) (sRet (ret (.bl false))) (sNx)) (sSeq (sIf (Lw.tOr (tB (mOwn "Word" f_Word___eq__ dNe true (.v (mCall f_walked (aCons (mV 7) (aCons (mV 8) (aNil))))) (.n 5))) (Lw.tOr (tB (m2 dNe (.v (mCall f_returned (aCons (mV 8) (aNil)))) (.v (mBi dTuple [.n 14])))) (Lw.tNot (tB (mCall f__law_is_word (aCons (mV 5) (aCons (mV 3) (aCons (mV 4) (aNil))))))))) (sRet (ret (.bl false))) (sNx)) (sSeq (sAsg (m2 dIx (.v (mLst (aCons (ret .non) (aCons (mTup (aCons (ret (.str "first")) (aCons (ret (.int 39)) (aNil)))) (aCons (mTup (aCons (ret (.str "out")) (aCons (ret (.int 0)) (aNil)))) (aCons (mTup (aCons (ret (.str "in")) (aCons (ret (.int 41)) (aNil)))) (aCons (mTup (aCons (ret (.str "in")) (aCons (ret (.int 0)) (aNil)))) (aCons (ret (.int 5)) (aCons (mLst (aCons (ret (.str "in")) (aCons (ret (.int 0)) (aNil)))) (aCons (mTup (aCons (ret (.str "last")) (aCons (m1 dNg (.v (ret (.int 1)))) (aNil)))) (aNil))))))))))) (.v (mCall f__law_draw (aCons (mV 1) (aCons (ret (.int 8)) (aNil)))))) (gV 10)) (sSeq (sAsg (mCall f__law_draw (aCons (mV 1) (aCons (m2 dAdd (.v (mBi dLen [.n 14])) (.v (ret (.int 1)))) (aNil)))) (gV 11)) (sSeq (sAsg (m2 dAdd (.v (m2 dAdd (.v (mCut (.n 14) none (some (mV 11)))) (.v (m2 dMul (.v (mLst (aCons (mV 10) (aNil)))) (.v (m2 dAdd (.v (ret (.int 1))) (.v (mCall f__law_draw (aCons (mV 1) (aCons (ret (.int 9)) (aNil))))))))))) (.v (mCut (.n 14) (some (mV 11)) none))) (gV 12)) (sSeq (sAsg (mTup (aCons (mCall f__law_stopped (aCons (mV 3) (aCons (mV 4) (aCons (mV 12) (aNil))))) (aCons (mHear 9 h__law_heard (mCall f_walked (aCons (mV 5) (aCons (mV 12) (aNil))))) (aNil)))) (gT [gV 16, gV 17])) (sSeq (sIf (Lw.tAnd (tB (m2 dIsN (.n 16) (.v (ret .non)))) (tB (m1 (dIsT "list") (.n 17)))) (sAsg (ret .non) (gV 17)) (sNx)) (sSeq (sIf (tB (m2 dNeX (.n 17) (.n 16))) (sRet (ret (.bl false))) (sNx)) (sSeq (sAsg (m2 dIx (.v (mLst (aCons (ret .non) (aCons (ret (.int 5)) (aCons (ret (.str "first")) (aCons (ret (.dct [])) (aCons (ret (.bl true)) (aCons (mV 5) (aCons (m2 dPw (.v (ret (.int 10))) (.v (ret (.int 30)))) (aNil)))))))))) (.v (mCall f__law_draw (aCons (mV 1) (aCons (ret (.int 7)) (aNil)))))) (gV 13)) (sIf (tB (m2 dNeX (.v (mHear 9 h__law_heard (mCall f_walked (aCons (mV 5) (aCons (mV 13) (aNil)))))) (.v (mTup (aCons (ret (.str "move")) (aCons (ret .non) (aNil))))))) (sRet (ret (.bl false))) (sNx))))))))))))))))))))) (sRet (mAnd (mOwn "Word" f_Word___eq__ dEq false (.v (mCall f_walked (aCons (mCall f_Word___init__ (aCons (ret (.int 2)) (aCons (mLst (aCons (ret (.int 1)) (aNil))) (aNil)))) (aCons (mTup (aNil)) (aNil))))) (.v (mCall f_Word___init__ (aCons (ret (.int 2)) (aCons (mLst (aCons (ret (.int 1)) (aNil))) (aNil)))))) (m2 dEq (.v (mCall f_returned (aCons (mTup (aNil)) (aNil)))) (.v (mTup (aNil)))))))
noncomputable def f_law : Fn := fnOf 19 1 b_law
theorem sc_law : FnScope ["script", "m", "turn", "size", "letters", "word", "given", "last", "back", "others", "wrong", "at", "bent", "odd", "row", "end", "due", "told", "kind"] ["script"] (defScope (top 48)) := ⟨rfl, rfl, rfl, by decide +kernel, rfl, by decide +kernel, by decide +kernel⟩
theorem ok_law (G : Gs P K mg base) {f : Addr} {fd : FuncData} (F : FunD K "law" "law" (defArgs (top 48)) (defBody (top 48)) (defScope (top 48)) [] [] f fd) (F_Word___eq__ : EqM P w K mg base T 1 "Word" f_Word___eq__) (F_Word___init__ : MkM P w K mg base T 4 "Word" 2 f_Word___init__) (F__law_begun : FnM P w K mg base T 2 "_law_begun" 1 f__law_begun) (F__law_draw : FnM P w K mg base T 2 "_law_draw" 2 f__law_draw) (H__law_heard : HearM P w K mg base T 1 "_law_heard" "call" 9 h__law_heard) (F__law_is_word : FnM P w K mg base T 1 "_law_is_word" 3 f__law_is_word) (F__law_letters : FnM P w K mg base T 3 "_law_letters" 3 f__law_letters) (F__law_like : FnM P w K mg base T 1 "_law_like" 2 f__law_like) (F__law_moves : FnM P w K mg base T 3 "_law_moves" 4 f__law_moves) (F__law_size : FnM P w K mg base T 3 "_law_size" 1 f__law_size) (F__law_stopped : FnM P w K mg base T 3 "_law_stopped" 3 f__law_stopped) (F_returned : FnM P w K mg base T 1 "returned" 1 f_returned) (F_walked : FnM P w K mg base T 8 "walked" 2 f_walked) {cc P0 : Addr} (TB : LamX.TabB base mg cc P0) (hcode : ∀ cdv : Value, (∃ oc od osl kV doc pm an ct dV, K.lookup f = some ⟨oc, od, .func (PySem.W.fnOf "law" "law" (defArgs (top 48)) (defBody (top 48)) (defScope (top 48)) dV kV doc pm an cdv ct), osl⟩) → cdv = .ref cc) (hmT : (P0, Str.ofString "law" ++ ".<locals>." ++ "<lambda>") ∈ T) (hu2 : ∀ p ∈ T, p.1 = P0 → p.2 = Str.ofString "law" ++ ".<locals>." ++ "<lambda>") : FnG P w K mg base T 11 f 1 f_law :=
  okMc F sc_law (fun _ _ _ _ _ _ us hl => match us, hl with | [_], _ => rfl) (fun cdv A outer s H E c eT gd hr hl => by
    have hN := sc_law.nd
    exact lb_cons (ls_set 1 hN (le_call (F__law_begun.cast eT) (hr.mono (by decide)) gd (takes_of rfl rfl rfl rfl) (la_cons (le_v 0) (la_nil)))) (lb_cons (ls_for (passes_of rfl) rfl (li_rg1 G.m_range (le_int)) (lg_v 2 hN) (lb_cons (ls_set 3 hN (le_call (F__law_size.cast eT) (hr.mono (by decide)) gd (takes_of rfl rfl rfl rfl) (la_cons (le_v 1) (la_nil)))) (lb_cons (ls_set 4 hN (le_call (F__law_letters.cast eT) (hr.mono (by decide)) gd (takes_of rfl rfl rfl rfl) (la_cons (le_v 1) (la_cons (le_v 3) (la_cons (le_ix (lo_v (le_lst (la_cons (le_int) (la_cons (le_int) (la_nil))))) (lo_v (le_call (F__law_draw.cast eT) (hr.mono (by decide)) gd (takes_of rfl rfl rfl rfl) (la_cons (le_v 1) (la_cons (le_int) (la_nil)))))) (la_nil)))))) (lb_cons (ls_set 5 hN (le_make (F_Word___init__.cast eT) (hr.mono (by decide)) gd (takes_of rfl rfl rfl rfl) (la_cons (le_v 3) (la_cons (le_v 4) (la_nil))))) (lb_cons (ls_asg (le_call (F__law_moves.cast eT) (hr.mono (by decide)) gd (takes_of rfl rfl rfl rfl) (la_cons (le_v 1) (la_cons (le_v 3) (la_cons (le_v 4) (la_cons (le_call (F__law_draw.cast eT) (hr.mono (by decide)) gd (takes_of rfl rfl rfl rfl) (la_cons (le_v 1) (la_cons (le_int) (la_nil)))) (la_nil)))))) (lg_u rfl (lgs_cons (lg_v 14 hN) (lgs_cons (lg_v 15 hN) (lgs_nil))))) (lb_cons (ls_set 6 hN (le_ix (lo_v (le_lst (la_cons (le_v 14) (la_cons (le_tuple G.m_tuple (lo_n 14)) (la_nil))))) (lo_v (le_call (F__law_draw.cast eT) (hr.mono (by decide)) gd (takes_of rfl rfl rfl rfl) (la_cons (le_v 1) (la_cons (le_int) (la_nil))))))) (lb_cons (ls_set 7 hN (le_call (F_walked.cast eT) (hr.mono (by decide)) gd (takes_of rfl rfl rfl rfl) (la_cons (le_v 5) (la_cons (le_v 6) (la_nil))))) (lb_cons (ls_if (lt_w (lw_or (lt_not (lt_b (le_call (F__law_is_word.cast eT) (hr.mono (by decide)) gd (takes_of rfl rfl rfl rfl) (la_cons (le_v 7) (la_cons (le_v 3) (la_cons (le_v 15) (la_nil))))))) (lw_or1 (lt_cmp (op_neD hr.units) sm_ne (nomark _) (lo_v (le_list G.m_list (lo_n 6))) (lo_n 14))))) (lb_one (ls_ret (le_bl))) (lb_nil)) (lb_cons (ls_set 8 hN (le_call (F_returned.cast eT) (hr.mono (by decide)) gd (takes_of rfl rfl rfl rfl) (la_cons (le_v 6) (la_nil)))) (lb_cons (ls_set 9 hN (le_dctC [(.inr "in", V.str "out"), (.inr "out", V.str "in"), (.inr "first", V.str "first"), (.inr "last", V.str "last")] [.str "in", .str "out", .str "first", .str "last"] [.str "out", .str "in", .str "first", .str "last"] (pps_cons pe_str pe_str (pps_cons pe_str pe_str (pps_cons pe_str pe_str (pps_cons pe_str pe_str (pps_nil))))) (fun _ => .cons (.str "in") (.cons (.str "out") (.cons (.str "first") (.cons (.str "last") (.nil))))) (fun _ => .cons (.str "out") (.cons (.str "in") (.cons (.str "first") (.cons (.str "last") (.nil))))))) (lb_cons (ls_if (lt_not (lt_b (le_call (F__law_like.cast eT) (hr.mono (by decide)) gd (takes_of rfl rfl rfl rfl) (la_cons (le_v 8) (la_cons (le_tuple G.m_tuple (lo_v (le_f (lf_lc [("kind", 18), ("at", 11)] rfl hN (li_seq (le_backA (lo_n 14))) (blkOk_by rfl) (fun _ _ _ _ _ c1 e1 => lg_t rfl (lgs_cons (lg_v 18 hN (hvs := by decide)) (lgs_cons (lg_v 11 hN (hvs := by decide)) (lgs_nil)))) (fun _ _ _ _ _ c1 e1 => lq_nil) (fun _ _ _ _ _ c1 e1 => le_tup (la_cons (le_dgetI (units_1 hr) (le_v 9) (le_v 18)) (la_cons (le_v 11) (la_nil)))))))) (la_nil)))))) (lb_one (ls_ret (le_bl))) (lb_nil)) (lb_cons (ls_if (lt_w (lw_or (lt_own (op_neD hr.units) sm_ne (op_neO (F_Word___eq__.cast eT) (hr.mono (by decide)) gd (takes_of rfl rfl rfl rfl)) (nomark _) (lo_v (le_call (F_walked.cast eT) (hr.mono (by decide)) gd (takes_of rfl rfl rfl rfl) (la_cons (le_v 7) (la_cons (le_v 8) (la_nil))))) (lo_n 5)) (lw_or (lt_cmp (op_neD hr.units) sm_ne (nomark _) (lo_v (le_call (F_returned.cast eT) (hr.mono (by decide)) gd (takes_of rfl rfl rfl rfl) (la_cons (le_v 8) (la_nil)))) (lo_v (le_tuple G.m_tuple (lo_n 14)))) (lw_or1 (lt_not (lt_b (le_call (F__law_is_word.cast eT) (hr.mono (by decide)) gd (takes_of rfl rfl rfl rfl) (la_cons (le_v 5) (la_cons (le_v 3) (la_cons (le_v 4) (la_nil))))))))))) (lb_one (ls_ret (le_bl))) (lb_nil)) (lb_cons (ls_set 10 hN (le_ix (lo_v (le_lst (la_cons (le_non) (la_cons (le_tup (la_cons (le_str) (la_cons (le_int) (la_nil)))) (la_cons (le_tup (la_cons (le_str) (la_cons (le_int) (la_nil)))) (la_cons (le_tup (la_cons (le_str) (la_cons (le_int) (la_nil)))) (la_cons (le_tup (la_cons (le_str) (la_cons (le_int) (la_nil)))) (la_cons (le_int) (la_cons (le_lst (la_cons (le_str) (la_cons (le_int) (la_nil)))) (la_cons (le_tup (la_cons (le_str) (la_cons (le_neg (lo_v (le_int))) (la_nil)))) (la_nil))))))))))) (lo_v (le_call (F__law_draw.cast eT) (hr.mono (by decide)) gd (takes_of rfl rfl rfl rfl) (la_cons (le_v 1) (la_cons (le_int) (la_nil))))))) (lb_cons (ls_set 11 hN (le_call (F__law_draw.cast eT) (hr.mono (by decide)) gd (takes_of rfl rfl rfl rfl) (la_cons (le_v 1) (la_cons (le_add (lo_v (le_len G.m_len (lo_n 14))) (lo_v (le_int))) (la_nil))))) (lb_cons (ls_set 12 hN (le_add (lo_v (le_add (lo_v (le_cut (lo_n 14) lp_none (lp_some (le_v 11)))) (lo_v (le_mul (lo_v (le_lst (la_cons (le_v 10) (la_nil)))) (lo_v (le_add (lo_v (le_int)) (lo_v (le_call (F__law_draw.cast eT) (hr.mono (by decide)) gd (takes_of rfl rfl rfl rfl) (la_cons (le_v 1) (la_cons (le_int) (la_nil))))))))))) (lo_v (le_cut (lo_n 14) (lp_some (le_v 11)) lp_none)))) (lb_cons (ls_par 16 17 rfl hN (la_cons (le_call (F__law_stopped.cast eT) (hr.mono (by decide)) gd (takes_of rfl rfl rfl rfl) (la_cons (le_v 3) (la_cons (le_v 4) (la_cons (le_v 12) (la_nil))))) (la_cons (le_hear (n := 9) (k := 8) (dn := none) ((H__law_heard.mono (by decide)).cast eT) (hr.mono (by decide)) gd TB (hcode cdv hl) (by rw [eT]; exact hmT) (by rw [eT]; exact hu2) .a0 (lamS_by rfl) (fun f c2 A outer s H E cL eL gdL hrL => le_call (F_walked.cast (eL.trans eT)) (hrL.mono (by decide)) gdL (takes_of rfl rfl rfl rfl) (la_cons (le_v 5) (la_cons (le_v 12) (la_nil))))) (la_nil)))) (lb_cons (ls_if (lt_w (lw_and (lt_cmp op_isN sm_isN (nomark _) (lo_n 16) (lo_v (le_non))) (lw_and1 (lt_b (le_isT ask_list G.m_isinstance G.m_list (lo_n 17)))))) (lb_one (ls_set 17 hN (le_non))) (lb_nil)) (lb_cons (ls_if (lt_cmp (op_neX hr.units) sm_neX (nomark _) (lo_n 17) (lo_n 16)) (lb_one (ls_ret (le_bl))) (lb_nil)) (lb_cons (ls_set 13 hN (le_ix (lo_v (le_lst (la_cons (le_non) (la_cons (le_int) (la_cons (le_str) (la_cons (le_dct0) (la_cons (le_bl) (la_cons (le_v 5) (la_cons (le_pw (lo_v (le_int)) (lo_v (le_int))) (la_nil)))))))))) (lo_v (le_call (F__law_draw.cast eT) (hr.mono (by decide)) gd (takes_of rfl rfl rfl rfl) (la_cons (le_v 1) (la_cons (le_int) (la_nil))))))) (lb_one (ls_if (lt_cmp (op_neX hr.units) sm_neX (nomark _) (lo_v (le_hear (n := 9) (k := 8) (dn := none) ((H__law_heard.mono (by decide)).cast eT) (hr.mono (by decide)) gd TB (hcode cdv hl) (by rw [eT]; exact hmT) (by rw [eT]; exact hu2) .a0 (lamS_by rfl) (fun f c2 A outer s H E cL eL gdL hrL => le_call (F_walked.cast (eL.trans eT)) (hrL.mono (by decide)) gdL (takes_of rfl rfl rfl rfl) (la_cons (le_v 5) (la_cons (le_v 13) (la_nil)))))) (lo_v (le_tup (la_cons (le_str) (la_cons (le_non) (la_nil)))))) (lb_one (ls_ret (le_bl))) (lb_nil)))))))))))))))))))))) (lb_one (ls_ret (le_and (le_own (op_eqD hr.units) sm_eq (op_eqO (F_Word___eq__.cast eT) (hr.mono (by decide)) gd (takes_of rfl rfl rfl rfl)) (nomark _) (lo_v (le_call (F_walked.cast eT) (hr.mono (by decide)) gd (takes_of rfl rfl rfl rfl) (la_cons (le_make (F_Word___init__.cast eT) (hr.mono (by decide)) gd (takes_of rfl rfl rfl rfl) (la_cons (le_int) (la_cons (le_lst (la_cons (le_int) (la_nil))) (la_nil)))) (la_cons (le_tup (la_nil)) (la_nil))))) (lo_v (le_make (F_Word___init__.cast eT) (hr.mono (by decide)) gd (takes_of rfl rfl rfl rfl) (la_cons (le_int) (la_cons (le_lst (la_cons (le_int) (la_nil))) (la_nil)))))) (le_one (le_cmp (op_eqD hr.units) sm_eq (nomark _) (lo_v (le_call (F_returned.cast eT) (hr.mono (by decide)) gd (takes_of rfl rfl rfl rfl) (la_cons (le_tup (la_nil)) (la_nil)))) (lo_v (le_tup (la_nil))))))))))
end
end Lw

set_option Elab.async false
set_option linter.all false
set_option maxRecDepth 100000
set_option maxHeartbeats 4000000
/-! plain values that can be compared. -/
namespace Lw
open PySem
/-- a value that == takes: its depth is k at the most -/
structure Ly (k : Nat) (d : D) : Prop where
  pl : plain d = true
  cl : (toP d).canLay0 = true
  dp : (toP d).depth ≤ k
theorem Ly.mono {j k : Nat} {d : D} (h : Ly j d) (hk : j ≤ k) : Ly k d := ⟨h.pl, h.cl, Nat.le_trans h.dp hk⟩
theorem Ly.int (k : Nat) (i : Int) : Ly k (.int i) := ⟨rfl, rfl, Nat.zero_le _⟩
theorem Ly.bl (k : Nat) (i : Bool) : Ly k (.bl i) := ⟨rfl, rfl, Nat.zero_le _⟩
theorem Ly.non (k : Nat) : Ly k .non := ⟨rfl, rfl, Nat.zero_le _⟩
theorem Ly.str (k : Nat) {x : Str} (h : PyData.strOk x = true) : Ly k (.str x) := ⟨rfl, h, Nat.zero_le _⟩
theorem ly_all {k : Nat} : ∀ {xs : List D}, (∀ x ∈ xs, Ly k x) → plainAll xs = true ∧ PyData.canLayAll0 (toPs xs) = true ∧ PyData.depthAll (toPs xs) ≤ k
  | [], _ => ⟨rfl, by simp [toPs, PyData.canLayAll0], by simp [toPs, PyData.depthAll]⟩
  | x :: xs, h => by
    obtain ⟨h1, h2, h3⟩ := h x List.mem_cons_self
    obtain ⟨h4, h5, h6⟩ := ly_all (k := k) (xs := xs) fun y hy => h y (List.mem_cons_of_mem _ hy)
    refine ⟨by simp [plainAll, h1, h4], by simp [toPs, PyData.canLayAll0, h2, h5], ?_⟩
    simp only [toPs, PyData.depthAll]
    omega
theorem Ly.tup {k : Nat} {xs : List D} (h : ∀ x ∈ xs, Ly k x) : Ly (k + 1) (.tup xs) := by
  obtain ⟨h1, h2, h3⟩ := ly_all h
  exact ⟨by simp [plain, h1], by simp [toP, PyData.canLay0, h2], by simp only [toP, PyData.depth]; omega⟩
theorem Ly.lst {k : Nat} {xs : List D} (h : ∀ x ∈ xs, Ly k x) : Ly (k + 1) (.lst xs) := by
  obtain ⟨h1, h2, h3⟩ := ly_all h
  exact ⟨by simp [plain, h1], by simp [toP, PyData.canLay0, h2], by simp only [toP, PyData.depth]; omega⟩
theorem Ly.ints {cs : List Int} (k : Nat) : ∀ x ∈ cs.map D.int, Ly k x := fun x hx => by
  obtain ⟨i, _, rfl⟩ := List.mem_map.mp hx
  exact .int k i
theorem Ly.sh {k : Nat} {d : D} (h : Ly k d) (hk : k ≤ 64) : SeqAt.shaped (toP d) = true := by
  have := h.dp
  simp [SeqAt.shaped, h.cl]
  omega
theorem ly_eq {j k : Nat} {a b : D} (ha : Ly j a) (hb : Ly k b) (hj : j ≤ 64) (hk : k ≤ 64) : dEq a b = some (.bl (PyData.eqv (toP a) (toP b))) := by
  unfold dEq
  rw [ha.pl, hb.pl, ha.sh hj, hb.sh hk]
  rfl
theorem ly_ne {j k : Nat} {a b : D} (ha : Ly j a) (hb : Ly k b) (hj : j ≤ 64) (hk : k ≤ 64) : dNe a b = some (.bl (!PyData.eqv (toP a) (toP b))) := by
  unfold dNe
  rw [ha.pl, hb.pl, ha.sh hj, hb.sh hk]
  rfl
theorem eq_self {k : Nat} {a : D} (h : Ly k a) (hk : k ≤ 64) : dEq a a = some (.bl true) := by rw [ly_eq h h hk hk, SeqAt.eqv_refl _ h.cl]
theorem ne_self {k : Nat} {a : D} (h : Ly k a) (hk : k ≤ 64) : dNe a a = some (.bl false) := by rw [ly_ne h h hk hk, SeqAt.eqv_refl _ h.cl]; rfl
end Lw


set_option Elab.async false
set_option linter.all false
set_option maxRecDepth 100000
set_option maxHeartbeats 4000000
/-! what the first defs of the program compute. -/
namespace Lw
open PySem
theorem whole_ok {d : D} (h : tyD d ≠ none) (ds : Option DSt) : f_is_whole [d] ds = .ok (.bl (isI d)) ds := by
  cases d <;> first
    | exact absurd rfl h
    | simp [f_is_whole, fnOf, b_is_whole, dIsT, tyD, subT, isI]
theorem among_ok {d : D} (h : tyD d ≠ none) (a b : Int) (ds : Option DSt) : f_is_among [d, .int a, .int b] ds = .ok (.bl (inR a b d)) ds := by
  have hw := whole_ok h ds
  by_cases hi : isI d = true
  · cases d with
    | int i =>
      by_cases h1 : a ≤ i
      · simp [f_is_among, fnOf, b_is_among, hw, isI, inR, h1]
      · simp [f_is_among, fnOf, b_is_among, hw, isI, inR, h1]
    | _ => cases hi
  · have hr : inR a b d = false := by
      cases d with
      | int i => exact absurd rfl hi
      | _ => rfl
    have hi : isI d = false := by simpa using hi
    simp [f_is_among, fnOf, b_is_among, hw, hi, hr]
theorem size_ok {d : D} (h : tyD d ≠ none) (ds : Option DSt) : f_need_size [d] ds = if inR 2 6 d then .ok .non ds else .er (.exc "BadSize" [d]) ds := by
  by_cases hb : inR 2 6 d = true
  · simp [f_need_size, fnOf, b_need_size, among_ok h, hb]
  · simp [f_need_size, fnOf, b_need_size, among_ok h, hb]
theorem size_fit {n : Int} (h1 : 2 ≤ n) (h2 : n ≤ 6) (ds : Option DSt) : f_need_size [.int n] ds = .ok .non ds := by
  rw [size_ok (by simp [tyD])]
  simp [inR, h1, h2]
theorem size_bad {d : D} (h : tyD d ≠ none) (hr : inR 2 6 d = false) (ds : Option DSt) : f_need_size [d] ds = .er (.exc "BadSize" [d]) ds := by
  rw [size_ok h, hr]
  rfl
theorem row_ok {d : D} (h : tyD d ≠ none) (ds : Option DSt) : f_is_row [d] ds = .ok (.bl (isSq d)) ds := by
  cases d <;> first
    | exact absurd rfl h
    | simp [f_is_row, fnOf, b_is_row, dIsT2X, dIsT2, tyD, subT, isSq]
theorem row_lt {d : D} {xs : List D} (h : isLT d xs) (ds : Option DSt) : f_is_row [d] ds = .ok (.bl true) ds := by
  rcases h with rfl | rfl
  · exact row_ok (d := .lst xs) (by simp [tyD]) ds
  · exact row_ok (d := .tup xs) (by simp [tyD]) ds
/-! ### Word(size, letters) -/
theorem fi_ok {cn : String} {pm : List Nat} {n k : Nat} {b : M Fl} {m : M (List D)} {xs fs : List D} {ds : Option DSt} {s s' : S} (hl : xs.length = k) (hb : b ⟨some (.f 0) :: start n xs, ds⟩ = .ok .nx s) (hs : selfOk s.σ = true) (hm : m s = .ok fs s') : fnI cn pm n k b m xs ds = .ok (.obj cn (pick pm fs)) s'.ds := by
  unfold fnI
  rw [if_pos hl, hb]
  dsimp only
  rw [if_pos hs, hm]
theorem fi_er {cn : String} {pm : List Nat} {n k : Nat} {b : M Fl} {m : M (List D)} {xs : List D} {ds : Option DSt} {s : S} {x : D} (hl : xs.length = k) (hb : b ⟨some (.f 0) :: start n xs, ds⟩ = .er x s) : fnI cn pm n k b m xs ds = .er x s.ds := by
  unfold fnI
  rw [if_pos hl, hb]
def wl : M Fl := sIf (Lw.tNot (tB (mCall f_is_among (aCons (mV 4) (aCons (ret (.int 1)) (aCons (mV 1) (aNil))))))) (sRaise (mExc "BadLetters" (aCons (mV 3) (aNil)))) (sNx)
def WlR (n : Int) (d : D) (ds : Option DSt) (s : S) : Prop := ∃ a b, s = ⟨[some (.f 0), some (.d (.int n)), some (.d d), a, b], ds⟩
theorem wl_ok {n : Int} {d x : D} {ds : Option DSt} {k : Nat} (ht : tyD x ≠ none) (hx : inR 1 n x = true) {s : S} (h : WlR n d ds s) : ∃ s', bnd (cl (gT [gV 3, gV 4] (.pr [.int k, x]))) (fun _ => wl) s = .ok .nx s' ∧ WlR n d ds s' := by
  obtain ⟨a, b, rfl⟩ := h
  exact ⟨⟨[some (.f 0), some (.d (.int n)), some (.d d), some (.d (.int k)), some (.d x)], ds⟩, by simp [wl, among_ok ht, hx], _, _, rfl⟩
theorem wl_bad {n : Int} {d x : D} {ds : Option DSt} {k : Nat} (ht : tyD x ≠ none) (hx : inR 1 n x = false) {s : S} (h : WlR n d ds s) : ∃ s', bnd (cl (gT [gV 3, gV 4] (.pr [.int k, x]))) (fun _ => wl) s = .er (.exc "BadLetters" [.int k]) s' ∧ WlR n d ds s' := by
  obtain ⟨a, b, rfl⟩ := h
  exact ⟨⟨[some (.f 0), some (.d (.int n)), some (.d d), some (.d (.int k)), some (.d x)], ds⟩, by simp [wl, among_ok ht, hx], _, _, rfl⟩
theorem word_front {n : Int} {d : D} {xs : List D} (h1 : 2 ≤ n) (h2 : n ≤ 6) (hd : isLT d xs) (hl : xs.length ≤ 40) (ds : Option DSt) : b_Word___init__ ⟨some (.f 0) :: start 4 [.int n, d], ds⟩ = sSeq (fun s => forL (gT [gV 3, gV 4]) wl (enumF 0 xs) s) sNx ⟨[some (.f 0), some (.d (.int n)), some (.d d), none, none], ds⟩ := by
  have h40 : ¬ (40 < (xs.length : Int)) := by omega
  have hrow := row_lt hd ds
  unfold b_Word___init__
  rw [seq_ok (s' := ⟨[some (.f 0), some (.d (.int n)), some (.d d), none, none], ds⟩) (by simp [size_fit h1 h2])]
  rw [seq_ok (s' := ⟨[some (.f 0), some (.d (.int n)), some (.d d), none, none], ds⟩) (by simp [hrow])]
  rw [seq_ok (s' := ⟨[some (.f 0), some (.d (.int n)), some (.d d), none, none], ds⟩) (by rcases hd with rfl | rfl <;> simp [h40])]
  rcases hd with rfl | rfl <;> rfl
theorem word_ok {n : Int} {d : D} {xs : List D} (h1 : 2 ≤ n) (h2 : n ≤ 6) (hd : isLT d xs) (hl : xs.length ≤ 40) (ht : ∀ x ∈ xs, tyD x ≠ none) (ha : ∀ x ∈ xs, inR 1 n x = true) (ds : Option DSt) : f_Word___init__ [.int n, d] ds = .ok (.obj "Word" [.tup xs, .int n]) ds := by
  obtain ⟨s', e, a, b, rfl⟩ := forL_inv (g := gT [gV 3, gV 4]) (b := wl) (P := WlR n d ds) (enumF 0 xs) ⟨[some (.f 0), some (.d (.int n)), some (.d d), none, none], ds⟩ ⟨none, none, rfl⟩ fun x hx s hs => by
    obtain ⟨k, y, rfl, hy⟩ := enumF_mem hx
    exact wl_ok (ht y hy) (ha y hy) hs
  refine fi_ok (fs := [.int n, .tup xs]) (s := ⟨[some (.f 0), some (.d (.int n)), some (.d d), a, b], ds⟩) (s' := ⟨[some (.f 0), some (.d (.int n)), some (.d d), a, b], ds⟩) rfl ?_ rfl ?_
  · rw [word_front h1 h2 hd hl, seq_ok e]
    rfl
  · rcases hd with rfl | rfl <;> simp [asM]
theorem word_bad {n : Int} {d x : D} {xs ys : List D} (h1 : 2 ≤ n) (h2 : n ≤ 6) (hd : isLT d (xs ++ x :: ys)) (hl : (xs ++ x :: ys).length ≤ 40) (ht : ∀ x ∈ xs, tyD x ≠ none) (ha : ∀ x ∈ xs, inR 1 n x = true) (tx : tyD x ≠ none) (hx : inR 1 n x = false) (ds : Option DSt) : f_Word___init__ [.int n, d] ds = .er (.exc "BadLetters" [.int xs.length]) ds := by
  obtain ⟨s', e, a, b, rfl⟩ := forL_stop (g := gT [gV 3, gV 4]) (b := wl) (R := WlR n d ds) (R' := WlR n d ds) (e := .exc "BadLetters" [.int xs.length]) (x := .pr [.int xs.length, x]) (ys := enumF (xs.length + 1) ys) (fun s hs => wl_bad tx hx hs) (enumF 0 xs) ⟨[some (.f 0), some (.d (.int n)), some (.d d), none, none], ds⟩ ⟨none, none, rfl⟩ fun x hx s hs => by
    obtain ⟨k, y, rfl, hy⟩ := enumF_mem hx
    exact wl_ok (ht y hy) (ha y hy) hs
  refine fi_er (s := ⟨[some (.f 0), some (.d (.int n)), some (.d d), a, b], ds⟩) rfl ?_
  rw [word_front h1 h2 hd hl]
  refine seq_er ?_
  have hen : enumF 0 (xs ++ x :: ys) = enumF 0 xs ++ .pr [.int xs.length, x] :: enumF (xs.length + 1) ys := by
    rw [enumF_append]
    simp [enumF]
  show forL (gT [gV 3, gV 4]) wl (enumF 0 (xs ++ x :: ys)) _ = _
  rw [hen]
  exact e
theorem word_size {d x : D} (ht : tyD d ≠ none) (h : inR 2 6 d = false) (ds : Option DSt) : f_Word___init__ [d, x] ds = .er (.exc "BadSize" [d]) ds := by
  refine fi_er (s := ⟨[some (.f 0), some (.d d), some (.d x), none, none], ds⟩) rfl ?_
  unfold b_Word___init__
  refine seq_er ?_
  simp [size_bad ht h]
theorem word_no {n : Int} {d : D} (h1 : 2 ≤ n) (h2 : n ≤ 6) (ht : tyD d ≠ none) (hd : isSq d = false) (ds : Option DSt) : f_Word___init__ [.int n, d] ds = .er (.exc "BadLetters" [.non]) ds := by
  refine fi_er (s := ⟨[some (.f 0), some (.d (.int n)), some (.d d), none, none], ds⟩) rfl ?_
  unfold b_Word___init__
  rw [seq_ok (s' := ⟨[some (.f 0), some (.d (.int n)), some (.d d), none, none], ds⟩) (by simp [size_fit h1 h2])]
  refine seq_er ?_
  simp [row_ok ht, hd]
theorem word_great {n : Int} {d : D} {xs : List D} (h1 : 2 ≤ n) (h2 : n ≤ 6) (hd : isLT d xs) (hl : 40 < xs.length) (ds : Option DSt) : f_Word___init__ [.int n, d] ds = .er (.exc "TooGreat" [.int 40]) ds := by
  have h40 : 40 < (xs.length : Int) := by omega
  have hrow := row_lt hd ds
  refine fi_er (s := ⟨[some (.f 0), some (.d (.int n)), some (.d d), none, none], ds⟩) rfl ?_
  unfold b_Word___init__
  rw [seq_ok (s' := ⟨[some (.f 0), some (.d (.int n)), some (.d d), none, none], ds⟩) (by simp [size_fit h1 h2])]
  rw [seq_ok (s' := ⟨[some (.f 0), some (.d (.int n)), some (.d d), none, none], ds⟩) (by simp [hrow])]
  refine seq_er ?_
  rcases hd with rfl | rfl <;> simp [h40]
/-- a word of whole numbers -/
abbrev wordD (n : Int) (cs : List Int) : D := .obj "Word" [.tup (cs.map .int), .int n]
theorem word_int {n : Int} {d : D} {cs : List Int} (h1 : 2 ≤ n) (h2 : n ≤ 6) (hd : isLT d (cs.map .int)) (hl : cs.length ≤ 40) (ha : ∀ x ∈ cs, 1 ≤ x ∧ x ≤ n) (ds : Option DSt) : f_Word___init__ [.int n, d] ds = .ok (wordD n cs) ds :=
  word_ok h1 h2 hd (by simpa using hl) ints_ty (ints_inR ha) ds
end Lw

set_option Elab.async false
set_option linter.all false
set_option maxRecDepth 100000
set_option maxHeartbeats 4000000
/-! need_row. -/
namespace Lw
open PySem
@[simp] theorem slot_size (a b : D) : dSlot slots "size" (.obj "Word" [a, b]) = some b := rfl
@[simp] theorem slot_letters (a b : D) : dSlot slots "letters" (.obj "Word" [a, b]) = some a := rfl
@[simp] theorem q_backL (xs : List D) : dBack (.lst xs) = some (.lst xs.reverse) := rfl
@[simp] theorem q_backT (xs : List D) : dBack (.tup xs) = some (.tup xs.reverse) := rfl
/-! ### need_row -/
def gdD (n : Int) : D → Bool
  | .int i => decide (1 - n ≤ i) && decide (i ≤ n - 1) && !decide (i = 0)
  | _ => false
def nr : M Fl := sIf (Lw.tOr (Lw.tNot (tB (mCall f_is_among (aCons (mV 3) (aCons (m2 dSub (.v (ret (.int 1))) (.n 0)) (aCons (m2 dSub (.n 0) (.v (ret (.int 1)))) (aNil))))))) (tB (m2 dEq (.n 3) (.v (ret (.int 0)))))) (sRaise (mExc "BadDeed" (aCons (mV 2) (aNil)))) (sNx)
def NrR (n : Int) (d : D) (ds : Option DSt) (s : S) : Prop := ∃ a b, s = ⟨[some (.d (.int n)), some (.d d), a, b], ds⟩
theorem nr_ok {n : Int} {d x : D} {ds : Option DSt} {k : Nat} (hx : gdD n x = true) {s : S} (h : NrR n d ds s) : ∃ s', bnd (cl (gT [gV 2, gV 3] (.pr [.int k, x]))) (fun _ => nr) s = .ok .nx s' ∧ NrR n d ds s' := by
  obtain ⟨a, b, rfl⟩ := h
  cases x with
  | int i =>
    simp [gdD] at hx
    have hr : inR (1 - n) (n - 1) (.int i) = true := by simp [inR, hx]
    exact ⟨⟨[some (.d (.int n)), some (.d d), some (.d (.int k)), some (.d (.int i))], ds⟩, by simp [nr, among_ok (d := .int i) (by simp [tyD]), hr, hx], _, _, rfl⟩
  | _ => cases hx
theorem nr_bad {n : Int} {d x : D} {ds : Option DSt} {k : Nat} (ht : tyD x ≠ none) (hx : gdD n x = false) {s : S} (h : NrR n d ds s) : ∃ s', bnd (cl (gT [gV 2, gV 3] (.pr [.int k, x]))) (fun _ => nr) s = .er (.exc "BadDeed" [.int k]) s' ∧ NrR n d ds s' := by
  obtain ⟨a, b, rfl⟩ := h
  refine ⟨⟨[some (.d (.int n)), some (.d d), some (.d (.int k)), some (.d x)], ds⟩, ?_, _, _, rfl⟩
  by_cases hr : inR (1 - n) (n - 1) x = true
  · cases x with
    | int i =>
      have h0 : i = 0 := by
        simp [gdD, inR] at hx hr
        exact hx hr.1 hr.2
      subst h0
      simp [nr, among_ok ht, hr]
    | _ => cases hr
  · have hr : inR (1 - n) (n - 1) x = false := by simpa using hr
    simp [nr, among_ok ht, hr]
theorem gd_ints {n : Int} {r : List Int} (h : ∀ i ∈ r, 1 - n ≤ i ∧ i ≤ n - 1 ∧ i ≠ 0) : ∀ x ∈ r.map D.int, gdD n x = true := fun x hx => by
  obtain ⟨i, hi, rfl⟩ := List.mem_map.mp hx
  have := h i hi
  simp [gdD, this]
end Lw

set_option Elab.async false
set_option linter.all false
set_option maxRecDepth 100000
set_option maxHeartbeats 4000000
/-! Brackets: what pairs with what in a row of letters. Plain mathematics. -/
namespace Lw
structure Br where
  pr : List (Int × Int)
  lo : List Int
  hi : List Int
/-- one letter: i + 1 opens, i closes the last that is open -/
def bs (i : Int) (p c : Int) (b : Br) : Br :=
  if c = i + 1 then ⟨b.pr, b.lo, b.hi ++ [p]⟩
  else if c = i then (match b.hi.getLast? with
    | some h => ⟨b.pr ++ [(h, p)], b.lo, b.hi.dropLast⟩
    | none => ⟨b.pr, b.lo ++ [p], []⟩)
  else b
theorem bs_high {i p : Int} {b : Br} : bs i p (i + 1) b = ⟨b.pr, b.lo, b.hi ++ [p]⟩ := by simp [bs]
theorem bs_pair {i p x : Int} {pr : List (Int × Int)} {lo h : List Int} : bs i p i ⟨pr, lo, h ++ [x]⟩ = ⟨pr ++ [(x, p)], lo, h⟩ := by
  have : ¬ i = i + 1 := by omega
  simp [bs, this]
theorem bs_low {i p : Int} {pr : List (Int × Int)} {lo : List Int} : bs i p i ⟨pr, lo, []⟩ = ⟨pr, lo ++ [p], []⟩ := by
  have : ¬ i = i + 1 := by omega
  simp [bs, this]
theorem bs_oth {i p c : Int} {b : Br} (h1 : c ≠ i) (h2 : c ≠ i + 1) : bs i p c b = b := by simp [bs, h1, h2]
def brF (i : Int) : Nat → Br → List Int → Br
  | _, b, [] => b
  | k, b, c :: r => brF i (k + 1) (bs i k c b) r
def br0 : Br := ⟨[], [], []⟩
def br (i : Int) (cs : List Int) : Br := brF i 0 br0 cs
theorem brF_snoc {i : Int} {c : Int} : ∀ (cs : List Int) (k : Nat) (b : Br), brF i k b (cs ++ [c]) = bs i (k + cs.length : Nat) c (brF i k b cs)
  | [], k, b => rfl
  | x :: cs, k, b => by
    show brF i (k + 1) _ (cs ++ [c]) = _
    rw [brF_snoc cs (k + 1)]
    simp [brF]
    congr 1
    omega
theorem br_snoc {i c : Int} (cs : List Int) : br i (cs ++ [c]) = bs i cs.length c (br i cs) := by
  unfold br
  rw [brF_snoc]
  simp
theorem rev_ind {P : List Int → Prop} (h0 : P []) (h1 : ∀ cs c, P cs → P (cs ++ [c])) (cs : List Int) : P cs := by
  have : ∀ r : List Int, P r.reverse := by
    intro r
    induction r with
    | nil => exact h0
    | cons c r ih =>
      rw [List.reverse_cons]
      exact h1 _ _ ih
  simpa using this cs.reverse
theorem nil_snoc {α : Type} (xs : List α) : xs = [] ∨ ∃ ys y, xs = ys ++ [y] := by
  rcases List.eq_nil_or_concat xs with h | ⟨ys, y, h⟩
  · exact .inl h
  · exact .inr ⟨ys, y, by rw [h]; simp⟩
/-- one step, by cases -/
theorem bs_cases {i p c : Int} (b : Br) : (c = i + 1 ∧ bs i p c b = ⟨b.pr, b.lo, b.hi ++ [p]⟩) ∨ (c = i ∧ ∃ h x, b.hi = h ++ [x] ∧ bs i p c b = ⟨b.pr ++ [(x, p)], b.lo, h⟩) ∨ (c = i ∧ b.hi = [] ∧ bs i p c b = ⟨b.pr, b.lo ++ [p], []⟩) ∨ (c ≠ i ∧ c ≠ i + 1 ∧ bs i p c b = b) := by
  obtain ⟨pr, lo, hi⟩ := b
  by_cases h1 : c = i + 1
  · subst h1
    exact .inl ⟨rfl, bs_high⟩
  · by_cases h2 : c = i
    · subst h2
      rcases nil_snoc hi with rfl | ⟨h, x, rfl⟩
      · exact .inr (.inr (.inl ⟨rfl, rfl, bs_low⟩))
      · exact .inr (.inl ⟨rfl, h, x, rfl, bs_pair⟩)
    · exact .inr (.inr (.inr ⟨h2, h1, bs_oth h2 h1⟩))
/-- p is a place of cs, where x stands -/
def Pl (cs : List Int) (x p : Int) : Prop := ∃ k : Nat, p = k ∧ cs[k]? = some x
theorem Pl.lt {cs : List Int} {x p : Int} (h : Pl cs x p) : 0 ≤ p ∧ p.toNat < cs.length := by
  obtain ⟨k, rfl, h⟩ := h
  have := (List.getElem?_eq_some_iff.mp h).1
  exact ⟨by omega, by simpa using this⟩
theorem Pl.app {cs : List Int} {x p : Int} (h : Pl cs x p) (c : Int) : Pl (cs ++ [c]) x p := by
  obtain ⟨k, rfl, h⟩ := h
  exact ⟨k, rfl, by rw [List.getElem?_append_left (List.getElem?_eq_some_iff.mp h).1]; exact h⟩
theorem Pl.last (cs : List Int) (c : Int) : Pl (cs ++ [c]) c cs.length := ⟨cs.length, rfl, by simp⟩
theorem br_pl {i : Int} : ∀ cs : List Int, (∀ p ∈ (br i cs).lo, Pl cs i p) ∧ (∀ p ∈ (br i cs).hi, Pl cs (i + 1) p) ∧ (br i cs).pr.length + (br i cs).lo.length + (br i cs).hi.length ≤ cs.length := by
  refine rev_ind ⟨by simp [br, brF, br0], by simp [br, brF, br0], by simp [br, brF, br0]⟩ fun cs c ⟨h1, h2, h3⟩ => ?_
  rw [br_snoc]
  rcases bs_cases (i := i) (p := cs.length) (c := c) (br i cs) with ⟨rfl, e⟩ | ⟨rfl, h, x, eh, e⟩ | ⟨rfl, eh, e⟩ | ⟨_, _, e⟩ <;> rw [e]
  · refine ⟨fun p hp => (h1 p hp).app _, fun p hp => ?_, by simp; omega⟩
    rcases List.mem_append.mp hp with hp | hp
    · exact (h2 p hp).app _
    · simp at hp
      rw [hp]
      exact Pl.last _ _
  · rw [eh] at h2 h3
    refine ⟨fun p hp => (h1 p hp).app _, fun p hp => (h2 p (List.mem_append_left _ hp)).app _, ?_⟩
    simp at h3 ⊢
    omega
  · rw [eh] at h3
    refine ⟨fun p hp => ?_, fun p hp => (List.not_mem_nil hp).elim, by simp at h3 ⊢; omega⟩
    rcases List.mem_append.mp hp with hp | hp
    · exact (h1 p hp).app _
    · simp at hp
      rw [hp]
      exact Pl.last _ _
  · exact ⟨fun p hp => (h1 p hp).app _, fun p hp => (h2 p hp).app _, by simp; omega⟩
theorem set_app {cs : List Int} {k : Nat} (h : k < cs.length) (x c : Int) : (cs ++ [c]).set k x = cs.set k x ++ [c] := List.set_append_left _ _ h
theorem set_end (cs : List Int) (x c : Int) : (cs ++ [c]).set cs.length x = cs ++ [x] := by
  rw [List.set_append_right _ _ (Nat.le_refl _)]
  simp
theorem br_up {i : Int} : ∀ (cs : List Int) (l : List Int) (p : Int), (br i cs).lo = l ++ [p] → br i (cs.set p.toNat (i + 1)) = ⟨(br i cs).pr, l, p :: (br i cs).hi⟩ := by
  refine rev_ind (fun l p h => ?_) fun cs c ih l p h => ?_
  · simp [br, brF, br0] at h
  · rw [br_snoc] at h ⊢
    rcases bs_cases (i := i) (p := cs.length) (c := c) (br i cs) with ⟨rfl, e⟩ | ⟨rfl, q, x, eh, e⟩ | ⟨rfl, eh, e⟩ | ⟨n1, n2, e⟩ <;> rw [e] at h ⊢ <;> (try dsimp only at h ⊢)
    · have hp := (br_pl cs).1 p (by rw [h]; simp)
      rw [set_app hp.lt.2, br_snoc, ih l p h, bs_high]
      simp
    · have hp := (br_pl cs).1 p (by rw [h]; simp)
      rw [set_app hp.lt.2, br_snoc, ih l p h, eh, ← List.cons_append, bs_pair]
      simp
    · obtain ⟨h1, h2⟩ := List.append_inj' h rfl
      simp at h2
      rw [← h2]
      simp only [Int.toNat_natCast]
      rw [set_end, br_snoc, bs_high, eh, h1]
      simp
    · have hp := (br_pl cs).1 p (by rw [h]; simp)
      rw [set_app hp.lt.2, br_snoc, ih l p h, bs_oth n1 n2]
theorem br_down {i : Int} : ∀ (cs : List Int) (l : List Int) (p : Int), (br i cs).hi = p :: l → br i (cs.set p.toNat i) = ⟨(br i cs).pr, (br i cs).lo ++ [p], l⟩ := by
  refine rev_ind (fun l p h => ?_) fun cs c ih l p h => ?_
  · simp [br, brF, br0] at h
  · rw [br_snoc] at h ⊢
    rcases bs_cases (i := i) (p := cs.length) (c := c) (br i cs) with ⟨rfl, e⟩ | ⟨rfl, q, x, eh, e⟩ | ⟨rfl, eh, e⟩ | ⟨n1, n2, e⟩ <;> rw [e] at h ⊢ <;> (try dsimp only at h ⊢)
    · cases eq : (br i cs).hi with
      | nil =>
        rw [eq] at h
        simp at h
        rw [← h.1]
        simp only [Int.toNat_natCast]
        rw [set_end, br_snoc]
        have : br i cs = ⟨(br i cs).pr, (br i cs).lo, []⟩ := by rw [← eq]
        rw [this, bs_low]
        simp [h.2]
      | cons y t =>
        rw [eq] at h
        simp at h
        obtain ⟨rfl, rfl⟩ := h
        have hp := (br_pl cs).2.1 y (by rw [eq]; simp)
        rw [set_app hp.lt.2, br_snoc, ih t y eq, bs_high]
        try simp [eq]
    · subst h
      have eq : (br c cs).hi = p :: (l ++ [x]) := by rw [eh]; rfl
      have hp := (br_pl cs).2.1 p (by rw [eq]; simp)
      rw [set_app hp.lt.2, br_snoc, ih _ p eq]
      first
        | rw [bs_pair]; done
        | (rw [bs_pair]; simp)
    · cases h
    · have hp := (br_pl cs).2.1 p (by rw [h]; simp)
      rw [set_app hp.lt.2, br_snoc, ih l p h, bs_oth n1 n2]
/-! ### the deeds -/
/-- the row of letters behind a deed, if it can be done -/
def act1 (d : Int) (cs : List Int) : Option (List Int) :=
  if 0 < d then (br d cs).lo.getLast?.map fun p => cs.set p.toNat (d + 1)
  else (br (0 - d) cs).hi.head?.map fun p => cs.set p.toNat (0 - d)
theorem set_back {cs : List Int} {x y p : Int} (h : Pl cs x p) : (cs.set p.toNat y).set p.toNat x = cs := by
  obtain ⟨k, rfl, h⟩ := h
  rw [List.set_set]
  simp only [Int.toNat_natCast]
  obtain ⟨h1, rfl⟩ := List.getElem?_eq_some_iff.mp h
  exact List.set_getElem_self h1
theorem act_up {d : Int} {cs l : List Int} {p : Int} (h : 0 < d) (e : (br d cs).lo = l ++ [p]) : act1 d cs = some (cs.set p.toNat (d + 1)) := by simp [act1, h, e]
theorem act_up0 {d : Int} {cs : List Int} (h : 0 < d) (e : (br d cs).lo = []) : act1 d cs = none := by simp [act1, h, e]
theorem act_down {d : Int} {cs l : List Int} {p : Int} (h : ¬ 0 < d) (e : (br (0 - d) cs).hi = p :: l) : act1 d cs = some (cs.set p.toNat (0 - d)) := by simp [act1, h, e] at *; simp [e]
theorem act_down0 {d : Int} {cs : List Int} (h : ¬ 0 < d) (e : (br (0 - d) cs).hi = []) : act1 d cs = none := by simp [act1, h] at *; simp [e]
theorem act_back {d : Int} {cs es : List Int} (h : act1 d cs = some es) (h0 : d ≠ 0) : act1 (0 - d) es = some cs := by
  by_cases hd : 0 < d
  · rcases nil_snoc (br d cs).lo with e | ⟨l, p, e⟩
    · rw [act_up0 hd e] at h
      cases h
    · rw [act_up hd e] at h
      cases h
      have hb := br_up cs l p e
      have hp := (br_pl cs).1 p (by rw [e]; simp)
      have hn : 0 - (0 - d) = d := by omega
      rw [act_down (l := (br d cs).hi) (p := p) (by omega) (by rw [hn, hb]), hn, set_back hp]
  · cases e : (br (0 - d) cs).hi with
    | nil =>
      rw [act_down0 hd e] at h
      cases h
    | cons p l =>
      rw [act_down hd e] at h
      cases h
      have hb := br_down cs l p e
      have hp := (br_pl cs).2.1 p (by rw [e]; simp)
      rw [act_up (l := (br (0 - d) cs).lo) (p := p) (by omega) (by rw [hb]), set_back hp]
theorem act_len {d : Int} {cs es : List Int} (h : act1 d cs = some es) : es.length = cs.length := by
  unfold act1 at h
  split at h
  · obtain ⟨p, _, rfl⟩ := Option.map_eq_some_iff.mp h
    simp
  · obtain ⟨p, _, rfl⟩ := Option.map_eq_some_iff.mp h
    simp
theorem act_in {n d : Int} {cs es : List Int} (h : act1 d cs = some es) (hd : 1 - n ≤ d ∧ d ≤ n - 1 ∧ d ≠ 0) (hc : ∀ c ∈ cs, 1 ≤ c ∧ c ≤ n) : ∀ c ∈ es, 1 ≤ c ∧ c ≤ n := by
  intro c he
  unfold act1 at h
  split at h
  · obtain ⟨p, _, rfl⟩ := Option.map_eq_some_iff.mp h
    rcases List.mem_or_eq_of_mem_set he with h | h
    · exact hc c h
    · omega
  · obtain ⟨p, _, rfl⟩ := Option.map_eq_some_iff.mp h
    rcases List.mem_or_eq_of_mem_set he with h | h
    · exact hc c h
    · omega
/-! ### the places that count, and the machine on them -/
def pl (i : Int) : Nat → List Int → List Int
  | _, [] => []
  | k, c :: r => if c = i ∨ c = i + 1 then (k : Int) :: pl i (k + 1) r else pl i (k + 1) r
def bfold (i : Int) (cs : List Int) (b : Br) (R : List Int) : Br := R.foldl (fun b p => bs i p (cs.getD p.toNat 0) b) b
theorem bfold_pl {i : Int} {cs : List Int} : ∀ (r A : List Int) (b : Br), cs = A ++ r → bfold i cs b (pl i A.length r) = brF i A.length b r
  | [], A, b, _ => rfl
  | c :: r, A, b, h => by
    have ih := fun b => bfold_pl (i := i) (cs := cs) r (A ++ [c]) b (by rw [h]; simp)
    simp only [List.length_append, List.length_cons, List.length_nil, Nat.zero_add] at ih
    have hg : cs.getD A.length 0 = c := by rw [h]; simp
    unfold pl
    split
    · show bfold i cs (bs i A.length (cs.getD (A.length : Int).toNat 0) b) _ = _
      rw [ih]
      simp only [Int.toNat_natCast]
      rw [hg]
      rfl
    · rename_i h1
      rw [ih]
      show _ = brF i (A.length + 1) (bs i A.length c b) r
      rw [bs_oth (fun z => h1 (.inl z)) (fun z => h1 (.inr z))]
theorem bfold_br (i : Int) (cs : List Int) : bfold i cs br0 (pl i 0 cs) = br i cs := bfold_pl cs [] br0 rfl
theorem pl_pl {i : Int} {cs : List Int} : ∀ (r A : List Int), cs = A ++ r → ∀ p ∈ pl i A.length r, Pl cs i p ∨ Pl cs (i + 1) p
  | [], A, _, p, hp => (List.not_mem_nil hp).elim
  | c :: r, A, h, p, hp => by
    have ih := pl_pl (i := i) (cs := cs) r (A ++ [c]) (by rw [h]; simp)
    simp only [List.length_append, List.length_cons, List.length_nil, Nat.zero_add] at ih
    have hg : cs[A.length]? = some c := by rw [h]; simp
    unfold pl at hp
    split at hp
    · rename_i h1
      rcases List.mem_cons.mp hp with rfl | hp
      · rcases h1 with rfl | rfl
        · exact .inl ⟨_, rfl, hg⟩
        · exact .inr ⟨_, rfl, hg⟩
      · exact ih p hp
    · exact ih p hp
theorem pl_len {i : Int} : ∀ (r : List Int) (k : Nat), (pl i k r).length ≤ r.length
  | [], k => Nat.le_refl _
  | c :: r, k => by
    have := pl_len (i := i) r (k + 1)
    unfold pl
    split <;> simp <;> omega
theorem Pl.getD {cs : List Int} {x p : Int} (h : Pl cs x p) : cs.getD p.toNat 0 = x := by
  obtain ⟨k, rfl, h⟩ := h
  simp [List.getD, h]
end Lw

set_option Elab.async false
set_option linter.all false
set_option maxRecDepth 100000
set_option maxHeartbeats 4000000
/-! paired, Word.spare, up, down, ups, downs, done, can_do, stuck_at, run, inverse. -/
namespace Lw
open PySem
@[simp] theorem q_gUT (gs : List Tg) (xs : List D) (s : S) : gU gs (.tup xs) s = gAll gs xs s := rfl
@[simp] theorem q_gUL (gs : List Tg) (xs : List D) (s : S) : gU gs (.lst xs) s = gAll gs xs s := rfl
@[simp] theorem q_mMeth (alts : List (String × Fn)) (o : M D) (m : M (List D)) (s : S) : mMeth alts o m s = bnd o (fun x => match x with
  | .obj c ds => (match alts.lookup c with
    | some f => bnd m fun xs => call f (.obj c ds :: xs)
    | none => stuck)
  | _ => stuck) s := rfl
@[simp] theorem q_mPop (i : Nat) (σ : List (Option Sl)) (ds : Option DSt) : mPop i ⟨σ, ds⟩ = match σ[i]? with
  | some (some (.l xs)) => (match xs[xs.length - 1]? with
    | some d => .ok d ⟨σ.set i (some (.l xs.dropLast)), ds⟩
    | none => .no)
  | _ => .no := rfl
@[simp] theorem q_max2 (i j : Int) : dMax2 [.int i, .int j] = some (.int (if j > i then j else i)) := rfl
/-! ### loops -/
theorem while_inv {t : M Bool} {b : M Fl} {P : Nat → S → Prop} {Q : S → Prop} (h : ∀ k s, P k s → (∃ s', t s = .ok false s' ∧ Q s') ∨ (∃ s1 s2 j, t s = .ok true s1 ∧ b s1 = .ok .nx s2 ∧ j < k ∧ P j s2)) : ∀ (N k : Nat) (s : S), k < N → P k s → ∃ s', whileN t b N s = .ok .nx s' ∧ Q s'
  | 0, k, s, hk, _ => absurd hk (Nat.not_lt_zero _)
  | N + 1, k, s, hk, hp => by
    rcases h k s hp with ⟨s', e, q⟩ | ⟨s1, s2, j, e1, e2, hj, hp2⟩
    · exact ⟨s', by simp [whileN, e], q⟩
    · obtain ⟨s', e, q⟩ := while_inv h N j s2 (by omega) hp2
      exact ⟨s', by simp [whileN, e1, e2, e], q⟩
theorem lcL_filter {g : Tg} {t : M Bool} {e : M D} {vs : List Nat} {q : Int → Bool} {s : S} : ∀ (r : List Int), (∀ i ∈ r, lc1 g t e vs (.int i) s = .ok (if q i then [.int i] else []) s) → lcL g t e vs (r.map .int) s = .ok ((r.filter q).map .int) s
  | [], _ => rfl
  | i :: r, h => by
    have ih := lcL_filter r fun j hj => h j (List.mem_cons_of_mem _ hj)
    have hi := h i List.mem_cons_self
    show bnd (lc1 g t e vs (.int i)) (fun y => bnd (lcL g t e vs (r.map .int)) fun ys => ret (y ++ ys)) s = _
    rw [bnd_ok hi, bnd_ok ih]
    by_cases hq : q i = true <;> simp [hq, ret]
theorem atI_mid {A B : List Int} {x k : Int} (h : k = A.length) : L2.atI ((A ++ x :: B).map D.int) k = some (.int x) := by
  rw [at_getD (by omega) (by simp; omega)]
  subst h
  simp
theorem cut_takeI {cs : List Int} {k : Int} (h : 0 ≤ k) : cut (cs.map D.int) none (some k) = (cs.take k.toNat).map .int := by rw [cut_take _ h, List.map_take]
theorem cut_dropI {cs : List Int} {k : Int} (h : 0 ≤ k) : cut (cs.map D.int) (some k) none = (cs.drop k.toNat).map .int := by rw [cut_drop _ h, List.map_drop]
theorem eq_tnil (cs : List Int) : dEq (.tup (cs.map .int)) (.tup []) = some (.bl (decide (cs = []))) := eq_tupI cs []
theorem ne_lnil (cs : List Int) : dNe (.lst (cs.map .int)) (.lst []) = some (.bl (!decide (cs = []))) := ne_lstI cs []
theorem atI_head {B : List Int} {x : Int} : L2.atI ((x :: B).map D.int) 0 = some (.int x) := atI_mid (A := []) rfl
theorem atI_end {A : List Int} {x : Int} : L2.atI ((A ++ [x]).map D.int) (-1) = some (.int x) := by
  rw [List.map_append]
  exact at_last _ _
theorem set_cut {cs : List Int} {p x : Int} (h : 0 ≤ p ∧ p.toNat < cs.length) : (cs.take p.toNat).map D.int ++ .int x :: (cs.drop (p + 1).toNat).map .int = (cs.set p.toNat x).map .int := by
  have e : (p + 1).toNat = p.toNat + 1 := by omega
  rw [e, List.set_eq_take_append_cons_drop, if_pos h.2]
  simp
/-! ### paired -/
def srt (ps : List (Int × Int)) : List D := (ps.mergeSort leP).map ofP
@[simp] theorem sort_srt (ps : List (Int × Int)) : dSortP [.lst (ps.map ofP)] = some (.lst (srt ps)) := by simp [dSortP, srt]
def PrP (d : D) (i : Int) (ds : Option DSt) (b : Br) (s : S) : Prop := ∃ x y, s = ⟨[some (.d d), some (.d (.int i)), some (.l (b.pr.map ofP)), some (.l (b.lo.map .int)), some (.l (b.hi.map .int)), x, y], ds⟩
theorem bs_size {i p c : Int} (b : Br) : (bs i p c b).pr.length + (bs i p c b).lo.length + (bs i p c b).hi.length ≤ b.pr.length + b.lo.length + b.hi.length + 1 := by
  rcases bs_cases (i := i) (p := p) (c := c) b with ⟨_, e⟩ | ⟨_, q, z, eh, e⟩ | ⟨_, eh, e⟩ | ⟨n1, n2, e⟩ <;> rw [e]
  · simp
    omega
  · rw [eh]
    simp
    omega
  · rw [eh]
    simp
    omega
  · omega
/-! ### the methods -/
theorem atI_two (x y : D) : L2.atI [x, y] 0 = some x ∧ L2.atI [x, y] 1 = some y := ⟨rfl, rfl⟩
def gd1 (n d : Int) : Prop := 1 - n ≤ d ∧ d ≤ n - 1 ∧ d ≠ 0
/-! ### rows of deeds -/
def runs : List Int → List Int → Option (List Int)
  | [], cs => some cs
  | d :: r, cs => (act1 d cs).bind (runs r)
theorem runs_app : ∀ (r q cs : List Int), runs (r ++ q) cs = (runs r cs).bind (runs q)
  | [], q, cs => rfl
  | d :: r, q, cs => by
    show (act1 d cs).bind (runs (r ++ q)) = ((act1 d cs).bind (runs r)).bind (runs q)
    cases act1 d cs with
    | none => rfl
    | some es => exact runs_app r q es
def inv (r : List Int) : List Int := r.reverse.map fun d => 0 - d
theorem inv_snoc (r : List Int) (d : Int) : inv (r ++ [d]) = (0 - d) :: inv r := by simp [inv]
theorem inv_inv (r : List Int) : inv (inv r) = r := by
  unfold inv
  rw [← List.map_reverse, List.reverse_reverse, List.map_map]
  have : ((fun d : Int => 0 - d) ∘ fun d => 0 - d) = id := by
    funext x
    simp
  rw [this, List.map_id]
theorem inv_len (r : List Int) : (inv r).length = r.length := by simp [inv]
theorem inv_in {n : Int} {r : List Int} (h : ∀ d ∈ r, 1 - n ≤ d ∧ d ≤ n - 1 ∧ d ≠ 0) : ∀ d ∈ inv r, 1 - n ≤ d ∧ d ≤ n - 1 ∧ d ≠ 0 := fun d hd => by
  unfold inv at hd
  obtain ⟨y, hy, rfl⟩ := List.mem_map.mp hd
  have := h y (List.mem_reverse.mp hy)
  omega
theorem runs_inv : ∀ (r cs es : List Int), (∀ d ∈ r, d ≠ 0) → runs r cs = some es → runs (inv r) es = some cs := by
  refine rev_ind (fun cs es _ h => ?_) fun r d ih cs es h0 h => ?_
  · cases h
    rfl
  · rw [runs_app] at h
    obtain ⟨fs, h1, h2⟩ := Option.bind_eq_some_iff.mp h
    have h3 : act1 d fs = some es := by
      obtain ⟨gs, h3, h4⟩ := Option.bind_eq_some_iff.mp h2
      cases h4
      exact h3
    rw [inv_snoc]
    show (act1 (0 - d) es).bind (runs (inv r)) = _
    rw [act_back h3 (h0 d (by simp))]
    exact ih cs fs (fun x hx => h0 x (by simp [hx])) h1
theorem runs_len : ∀ {r cs es : List Int}, runs r cs = some es → es.length = cs.length
  | [], cs, es, h => by
    cases h
    rfl
  | d :: r, cs, es, h => by
    obtain ⟨fs, h1, h2⟩ := Option.bind_eq_some_iff.mp h
    rw [runs_len h2, act_len h1]
theorem runs_inR {n : Int} : ∀ {r cs es : List Int}, (∀ d ∈ r, 1 - n ≤ d ∧ d ≤ n - 1 ∧ d ≠ 0) → runs r cs = some es → (∀ c ∈ cs, 1 ≤ c ∧ c ≤ n) → ∀ c ∈ es, 1 ≤ c ∧ c ≤ n
  | [], cs, es, _, h, hc => by
    cases h
    exact hc
  | d :: r, cs, es, hd, h, hc => by
    obtain ⟨fs, h1, h2⟩ := Option.bind_eq_some_iff.mp h
    exact runs_inR (fun x hx => hd x (List.mem_cons_of_mem _ hx)) h2 (act_in h1 (hd d List.mem_cons_self) hc)
/-- the word where it ends, and the place where it sticks -/
def stk : Nat → List Int → List Int → List Int × Option Nat
  | _, [], cs => (cs, none)
  | k, d :: r, cs => match act1 d cs with
    | none => (cs, some k)
    | some es => stk (k + 1) r es
theorem stk_runs : ∀ (r : List Int) (k : Nat) (cs es : List Int), runs r cs = some es → stk k r cs = (es, none)
  | [], k, cs, es, h => by
    cases h
    rfl
  | d :: r, k, cs, es, h => by
    obtain ⟨fs, h1, h2⟩ := Option.bind_eq_some_iff.mp h
    simp [stk, h1, stk_runs r (k + 1) fs es h2]
def ofK : Option Nat → D
  | none => .non
  | some k => .int k
def SkP (n : Int) (d : D) (ds : Option DSt) (cs : List Int) (s : S) : Prop := ∃ x y, s = ⟨[some (.d (wordD n cs)), some (.d d), x, y], ds⟩
end Lw

set_option Elab.async false
set_option linter.all false
set_option maxRecDepth 100000
set_option maxHeartbeats 4000000
/-! _law_left, _law_done. -/
namespace Lw
open PySem
/-! ### the places that count -/
theorem in_two (c i j : Int) : dIn (.int c) (.tup [.int i, .int j]) = some (.bl (decide (c = i) || decide (c = j))) := by
  have : dInL true (.int c) [.int i, .int j] = some (decide (c = i) || decide (c = j)) := by
    have h1 : decide (i = c) = decide (c = i) := by
      by_cases h : c = i
      · simp [h]
      · have : ¬ i = c := fun z => h z.symm
        simp [h, this]
    have h2 : decide (j = c) = decide (c = j) := by
      by_cases h : c = j
      · simp [h]
      · have : ¬ j = c := fun z => h z.symm
        simp [h, this]
    have hL := ints_canLay [i, j]
    have hD := ints_depth [i, j]
    simp only [List.map_cons, List.map_nil, toPs, toP] at hL hD
    simp [dInL, plain, plainAll, toP, toPs, SeqAt.shaped, PyData.canLay0, PyData.depth, PyData.eqv, hL, hD]
    rw [← h1, ← h2]
    by_cases h3 : i = c <;> by_cases h4 : j = c <;> simp [h3, h4]
  simp [dIn, this]
/-! ### _law_left -/
def LfS (cs : List Int) (i : Int) (ds : Option DSt) (rest : List Int) (pr : List (Int × Int)) (at' : Int) : S := ⟨[some (.d (.lst (cs.map .int))), some (.d (.int i)), some (.d (.lst (rest.map .int))), none, some (.l (pr.map ofP)), some (.d (.int at')), none, none], ds⟩
structure LfP (cs : List Int) (i : Int) (ds : Option DSt) (k : Nat) (b : Br) (Y : List Int) (at' : Int) : Prop where
  y : Y.length ≤ k
  fd : bfold i cs b Y = br i cs
  lo : ∀ p ∈ b.lo, Pl cs i p
  hi : ∀ p ∈ b.hi, Pl cs (i + 1) p
  ys : ∀ p ∈ Y, Pl cs i p ∨ Pl cs (i + 1) p
  sz : b.pr.length + b.lo.length + b.hi.length + Y.length ≤ 1000
  p0 : 0 ≤ at'
  pt : at' + 1 = b.lo.length + b.hi.length ∨ (b.lo = [] ∧ b.hi = [] ∧ Y = [] ∧ at' = 0)
theorem LfP.norm {cs : List Int} {i : Int} {ds : Option DSt} {k : Nat} {pr : List (Int × Int)} {Y : List Int} (y : Y.length ≤ k) (fd : bfold i cs ⟨pr, [], []⟩ Y = br i cs) (ys : ∀ p ∈ Y, Pl cs i p ∨ Pl cs (i + 1) p) (sz : pr.length + Y.length ≤ 1000) : ∃ b Y', LfP cs i ds k b Y' 0 ∧ b.pr = pr ∧ b.lo ++ b.hi ++ Y' = Y := by
  cases Y with
  | nil => exact ⟨⟨pr, [], []⟩, [], ⟨y, fd, fun _ h => absurd h List.not_mem_nil, fun _ h => absurd h List.not_mem_nil, ys, by simpa using sz, Int.le_refl _, .inr ⟨rfl, rfl, rfl, rfl⟩⟩, rfl, rfl⟩
  | cons p Y =>
    have fd : bfold i cs (bs i p (cs.getD p.toNat 0) ⟨pr, [], []⟩) Y = br i cs := fd
    simp at y sz
    rcases ys p List.mem_cons_self with hp | hp
    · rw [hp.getD, bs_low] at fd
      refine ⟨⟨pr, [p], []⟩, Y, ⟨by omega, fd, fun q hq => ?_, fun _ h => absurd h List.not_mem_nil, fun q hq => ys q (List.mem_cons_of_mem _ hq), by simp; omega, Int.le_refl _, .inl rfl⟩, rfl, rfl⟩
      simp at hq
      rw [hq]
      exact hp
    · rw [hp.getD, bs_high] at fd
      refine ⟨⟨pr, [], [p]⟩, Y, ⟨by omega, fd, fun _ h => absurd h List.not_mem_nil, fun q hq => ?_, fun q hq => ys q (List.mem_cons_of_mem _ hq), by simp; omega, Int.le_refl _, .inl rfl⟩, rfl, rfl⟩
      simp at hq
      rw [hq]
      exact hp
theorem at_pl {cs : List Int} {x p : Int} (h : Pl cs x p) : L2.atI (cs.map D.int) p = some (.int x) := by
  have := h.lt
  rw [at_getD this.1 (by omega), h.getD]
/-! ### _law_done -/
def ofL : Option (List Int) → D
  | some es => .lst (es.map .int)
  | none => .non
end Lw

set_option Elab.async false
set_option linter.all false
set_option maxRecDepth 100000
set_option maxHeartbeats 4000000
/-! _law_letters, _law_way, _law_heard, _law_like, _law_is_word. -/
namespace Lw
open PySem
@[simp] theorem q_mRg3 (m : M (List D)) (s : S) : mRg3 m s = bnd m (fun ds => opt (iRg3 ds)) s := rfl
def dn (a b : Int) : List Int := (List.range (a - b).toNat).map fun i => a - (i : Nat)
def upw (a b : Int) : List Int := (List.range (b - a).toNat).map fun i => a + (i : Nat)
theorem rgD_dn (a b : Int) : rgD a b = (dn a b).map .int := by simp [rgD, dn]
theorem rg_upw (a b : Int) : rg a b = (upw a b).map .int := by simp [rg, upw]
theorem dn_len (a b : Int) : (dn a b).length = (a - b).toNat := by simp [dn]
theorem upw_len (a b : Int) : (upw a b).length = (b - a).toNat := by simp [upw]
theorem dn_mem {a b x : Int} (h : x ∈ dn a b) : b < x ∧ x ≤ a := by
  unfold dn at h
  obtain ⟨i, hi, rfl⟩ := List.mem_map.mp h
  have := List.mem_range.mp hi
  omega
theorem upw_mem {a b x : Int} (h : x ∈ upw a b) : a ≤ x ∧ x < b := by
  unfold upw at h
  obtain ⟨i, hi, rfl⟩ := List.mem_map.mp h
  have := List.mem_range.mp hi
  omega
theorem rg3_ok {a b : Int} (h1 : -1000 ≤ a) (h2 : a ≤ 1000) (h3 : -1000 ≤ b) (h4 : b ≤ 1000) : iRg3 [.int a, .int b, .int (-1)] = some ((dn a b).map .int) := by
  have : rgDOk a b = true := by
    unfold rgDOk
    have hl : (10000 : Nat) ≤ line := by decide
    simp
    omega
  simp [iRg3, this, rgD_dn]
/-! ### _law_letters -/
def lwt : M Bool := tB (m2 dLt (.v (mBi dLen [.n 6])) (.n 5))
def lwb : M Fl := sIf (tB (m2 dEq (.n 4) (.v (ret (.int 0))))) (sApp 6 (m2 dAdd (.v (ret (.int 1))) (.v (mCall f__law_draw (aCons (mV 0) (aCons (mV 1) (aNil))))))) (sIf (tB (m2 dEq (.n 4) (.v (ret (.int 1))))) (sApp 6 (m2 dAdd (.n 3) (.v (mCall f__law_draw (aCons (mV 0) (aCons (ret (.int 2)) (aNil))))))) (sIf (tB (m2 dEq (.n 4) (.v (ret (.int 2))))) (sApp 6 (m2 dIx (.v (mLst (aCons (mV 3) (aCons (mV 3) (aCons (m2 dAdd (.v (ret (.int 1))) (.v (mCall f__law_draw (aCons (mV 0) (aCons (mV 1) (aNil)))))) (aNil)))))) (.v (mCall f__law_draw (aCons (mV 0) (aCons (ret (.int 3)) (aNil))))))) (sIf (tB (m2 dEq (.n 4) (.v (ret (.int 3))))) (sOwn 6 (mAddF (.n 6) (.v (mF (mRg3 (aCons (mV 1) (aCons (mCall f__law_draw (aCons (mV 0) (aCons (mV 1) (aNil)))) (aCons (m1 dNg (.v (ret (.int 1)))) (aNil))))))))) (sOwn 6 (mAddF (.n 6) (.v (mF (mRg2 (m2 dAdd (.v (ret (.int 1))) (.v (mCall f__law_draw (aCons (mV 0) (aCons (mV 1) (aNil)))))) (m2 dAdd (.n 1) (.v (ret (.int 1))))))))))))
def LtS (n most low kind many : Int) (st : DSt) (cs : List Int) : S := ⟨[some (.d .dm), some (.d (.int n)), some (.d (.int most)), some (.d (.int low)), some (.d (.int kind)), some (.d (.int many)), some (.l (cs.map .int))], some st⟩
theorem app_in {n : Int} {cs xs : List Int} (h : ∀ c ∈ cs, 1 ≤ c ∧ c ≤ n) (hx : ∀ c ∈ xs, 1 ≤ c ∧ c ≤ n) : ∀ c ∈ cs ++ xs, 1 ≤ c ∧ c ≤ n := fun c hc => (List.mem_append.mp hc).elim (h c) (hx c)
theorem lt_body {n most low kind many : Int} {st : DSt} {cs : List Int} (h1 : 2 ≤ n) (h2 : n ≤ 6) (hlow : 1 ≤ low ∧ low ≤ n - 1) (hk : 0 ≤ kind ∧ kind < 5) (hl : cs.length < 1000) (hs : st.spot ≤ 100000) : ∃ (xs : List Int) (st' : DSt), lwb (LtS n most low kind many st cs) = .ok .nx (LtS n most low kind many st' (cs ++ xs)) ∧ 0 < xs.length ∧ (∀ c ∈ xs, 1 ≤ c ∧ c ≤ n) ∧ st'.spot ≤ st.spot + 2 := by
  have hlen : cs.length < 16777216 := by omega
  have one : ∀ {c : Int}, 1 ≤ c ∧ c ≤ n → ∀ x ∈ [c], 1 ≤ x ∧ x ≤ n := fun {c} h x hx => by
    simp at hx
    rw [hx]
    exact h
  obtain ⟨v, st1, e1, a1, b1, s1⟩ := draw_ok (lim := n) (st := st) (by omega) (by omega) (by omega)
  obtain ⟨w, st2, e2, a2, b2, s2⟩ := draw_ok (lim := 2) (st := st) (by omega) (by omega) (by omega)
  obtain ⟨u, st3, e3, a3, b3, s3⟩ := draw_ok (lim := 3) (st := st1) (by omega) (by omega) (by omega)
  have hk' : kind = 0 ∨ kind = 1 ∨ kind = 2 ∨ kind = 3 ∨ kind = 4 := by omega
  rcases hk' with rfl | rfl | rfl | rfl | rfl
  · exact ⟨[1 + v], st1, by simp [lwb, LtS, e1, hlen], by simp, one (by omega), by omega⟩
  · exact ⟨[low + w], st2, by simp [lwb, LtS, e2, hlen], by simp, one (by omega), by omega⟩
  · have hu : u = 0 ∨ u = 1 ∨ u = 2 := by omega
    rcases hu with rfl | rfl | rfl
    · have : L2.atI [D.int low, .int low, .int (1 + v)] 0 = some (.int low) := rfl
      exact ⟨[low], st3, by simp [lwb, LtS, e1, e3, this, hlen], by simp, one (by omega), by omega⟩
    · have : L2.atI [D.int low, .int low, .int (1 + v)] 1 = some (.int low) := rfl
      exact ⟨[low], st3, by simp [lwb, LtS, e1, e3, this, hlen], by simp, one (by omega), by omega⟩
    · have : L2.atI [D.int low, .int low, .int (1 + v)] 2 = some (.int (1 + v)) := rfl
      exact ⟨[1 + v], st3, by simp [lwb, LtS, e1, e3, this, hlen], by simp, one (by omega), by omega⟩
  · have hr := rg3_ok (a := n) (b := v) (by omega) (by omega) (by omega) (by omega)
    have hl2 : cs.length + (dn n v).length ≤ line := by
      have : (10000 : Nat) ≤ line := by decide
      rw [dn_len]
      omega
    exact ⟨dn n v, st1, by simp [lwb, LtS, e1, hr, hl2], by rw [dn_len]; omega, fun c hc => by have := dn_mem hc; omega, by omega⟩
  · have hr := rg2_ok (u := 1 + v) (v := n + 1) (by omega) (by omega) (by omega) (by omega)
    rw [rg_upw] at hr
    have hl2 : cs.length + (upw (1 + v) (n + 1)).length ≤ line := by
      have : (10000 : Nat) ≤ line := by decide
      rw [upw_len]
      omega
    exact ⟨upw (1 + v) (n + 1), st1, by simp [lwb, LtS, e1, hr, hl2], by rw [upw_len]; omega, fun c hc => by have := upw_mem hc; omega, by omega⟩
theorem letters_ok {n most : Int} {st : DSt} (h1 : 2 ≤ n) (h2 : n ≤ 6) (m0 : 0 ≤ most) (m1 : most ≤ 900) (hs : st.spot ≤ 90000) : ∃ (cs : List Int) (st' : DSt), f__law_letters [.dm, .int n, .int most] (some st) = .ok (.lst (cs.map .int)) (some st') ∧ (cs.length : Int) ≤ most ∧ (∀ c ∈ cs, 1 ≤ c ∧ c ≤ n) ∧ st'.spot ≤ st.spot + 3 + 2 * most.toNat := by
  obtain ⟨kind, st1, e1, a1, b1, s1⟩ := draw_ok (lim := 5) (st := st) (by decide) (by decide) (by omega)
  obtain ⟨v, st2, e2, a2, b2, s2⟩ := draw_ok (lim := most + 1) (st := st1) (by omega) (by omega) (by omega)
  obtain ⟨w, st3, e3, a3, b3, s3⟩ := draw_ok (lim := n - 1) (st := st2) (by omega) (by omega) (by omega)
  obtain ⟨s', e, cs, st4, rfl, hc, hsp, hlv⟩ := while_inv (t := lwt) (b := lwb) (P := fun k s => ∃ cs st', s = LtS n most (1 + w) kind v st' cs ∧ (∀ c ∈ cs, 1 ≤ c ∧ c ≤ n) ∧ v.toNat - cs.length ≤ k ∧ st'.spot + 2 * k ≤ st3.spot + 2 * v.toNat) (Q := fun s => ∃ cs st', s = LtS n most (1 + w) kind v st' cs ∧ (∀ c ∈ cs, 1 ≤ c ∧ c ≤ n) ∧ st'.spot ≤ st3.spot + 2 * v.toNat ∧ v ≤ cs.length) (fun k s ⟨cs, st', es, hc, hk, hsp⟩ => by
      subst es
      have test : lwt (LtS n most (1 + w) kind v st' cs) = .ok (decide ((cs.length : Int) < v)) (LtS n most (1 + w) kind v st' cs) := by simp [lwt, LtS]
      by_cases hlt : (cs.length : Int) < v
      · rw [decide_eq_true hlt] at test
        obtain ⟨xs, st5, q1, q2, q3, q4⟩ := lt_body (most := most) (kind := kind) (many := v) (low := 1 + w) (cs := cs) (st := st') h1 h2 (by omega) (by omega) (by omega) (by omega)
        exact .inr ⟨_, _, k - 1, test, q1, by omega, cs ++ xs, st5, rfl, app_in hc q3, by simp; omega, by omega⟩
      · rw [decide_eq_false hlt] at test
        exact .inl ⟨_, test, cs, st', rfl, hc, by omega, by omega⟩) turns v.toNat (LtS n most (1 + w) kind v st3 []) (Nat.lt_of_le_of_lt (by omega : v.toNat ≤ 1000) (by decide)) ⟨[], st3, rfl, fun _ h => absurd h List.not_mem_nil, by simp, by omega⟩
  refine ⟨cs.take v.toNat, st4, ?_, by simp; omega, fun c h => hc c (List.mem_of_mem_take h), by omega⟩
  refine fn_rt (s := LtS n most (1 + w) kind v st4 cs) rfl ?_
  unfold b__law_letters
  rw [seq_ok (s' := ⟨[some (.d .dm), some (.d (.int n)), some (.d (.int most)), none, some (.d (.int kind)), some (.d (.int v)), some (.l [])], some st2⟩) (by simp [sPar, rhsM, putAll, e1, e2])]
  rw [seq_ok (s' := LtS n most (1 + w) kind v st3 []) (by simp [LtS, e3])]
  refine (seq_ok e).trans ?_
  simp [-List.map_take, LtS, cut_takeI a2]
/-! ### _law_way -/
def WyP (n many : Int) (cs0 : List Int) (s0 : Nat) (k : Nat) (s : S) : Prop := ∃ (r cs : List Int) (a b : Option Sl) (st : DSt), s = ⟨[some (.d .dm), some (.d (.int n)), some (.d (.lst (cs.map .int))), some (.d (.int many)), some (.l (r.map .int)), a, b, none], some st⟩ ∧ noOwn [7] [some (.d .dm), some (.d (.int n)), some (.d (.lst (cs.map .int))), some (.d (.int many)), some (.l (r.map .int)), a, b, none] = true ∧ runs r cs0 = some cs ∧ (∀ d ∈ r, 1 - n ≤ d ∧ d ≤ n - 1 ∧ d ≠ 0) ∧ r.length ≤ k ∧ st.spot ≤ s0 + k
theorem runs_snoc {r cs es fs : List Int} {d : Int} (h : runs r cs = some es) (hd : act1 d es = some fs) : runs (r ++ [d]) cs = some fs := by
  rw [runs_app, h]
  show (act1 d es).bind (runs []) = _
  rw [hd]
  rfl
/-! ### _law_heard -/
def hrest : M Fl := sSeq (sIf (tB (m2 dIsN (.n 7) (.v (ret .non)))) (sRet (mV 6)) (sNx)) (sSeq (sIf (tB (m1 (dIsP excs (· == "Stuck")) (.n 7))) (sRet (mIf (Lw.tNot (tB (m1 (dIsP excs isVal) (.n 7)))) (mTup (aCons (ret (.str "stuck")) (aCons (m1 (dFld excs "place") (.n 7)) (aNil)))) (ret (.str "odd")))) (sNx)) (sSeq (sIf (tB (m1 (dIsP excs (· == "TooGreat")) (.n 7))) (sRet (mIf (Lw.tNot (tB (m1 (dIsP excs isVal) (.n 7)))) (mTup (aCons (ret (.str "great")) (aCons (m1 (dFld excs "most") (.n 7)) (aNil)))) (ret (.str "odd")))) (sNx)) (sSeq (sAsg (mOr (m1 (dIsP excs (· == "BadSize")) (.n 7)) (mOr (m1 (dIsP excs (· == "BadIndex")) (.n 7)) (m1 (dIsP excs (· == "BadNumber")) (.n 7)))) (gV 2)) (sSeq (sAsg (mLst (aCons (m1 (dIsP excs (· == "BadSize")) (.n 7)) (aCons (m1 (dIsP excs (· == "BadLetters")) (.n 7)) (aCons (m1 (dIsP excs (· == "BadIndex")) (.n 7)) (aNil))))) (gV 3)) (sSeq (sAsg (m2 dAdd (.n 3) (.v (mLst (aCons (m1 (dIsP excs (· == "BadNumber")) (.n 7)) (aCons (m1 (dIsP excs (· == "BadDeed")) (.n 7)) (aCons (m1 (dIsP excs (· == "BadTable")) (.n 7)) (aNil))))))) (gV 3)) (sSeq (sAsg (m2 dAdd (.n 3) (.v (mLst (aCons (m1 (dIsP excs (· == "BadMove")) (.n 7)) (aCons (m1 (dIsP excs (· == "BadShape")) (.n 7)) (aCons (m1 (dIsP excs (· == "BadRecording")) (.n 7)) (aNil))))))) (gV 3)) (sSeq (sAsg (m2 dAdd (.n 3) (.v (mLst (aCons (m1 (dIsP excs (· == "OtherSize")) (.n 7)) (aCons (m1 (dIsP excs (· == "OtherHouse")) (.n 7)) (aNil)))))) (gV 3)) (sSeq (sAsg (mLst (aCons (ret (.str "size")) (aCons (ret (.str "letters")) (aCons (ret (.str "index")) (aCons (ret (.str "number")) (aCons (ret (.str "deed")) (aCons (ret (.str "table")) (aCons (ret (.str "move")) (aCons (ret (.str "shape")) (aCons (ret (.str "recording")) (aNil))))))))))) (gV 4)) (sSeq (sAsg (m2 dAdd (.n 4) (.v (mLst (aCons (ret (.str "othersize")) (aCons (ret (.str "otherhouse")) (aNil)))))) (gV 4)) (sSeq (sAsg (mF (mLc (bnd (aCons (mV 4) (aCons (mV 3) (aNil))) (fun ds => opt (iZ ds))) (gT [gV 8, gV 9]) (tB (mV 9)) (mV 8) [8, 9])) (gV 5)) (sSeq (sIf (Lw.tOr (tB (m2 dNe (.v (mBi dLen [.n 5])) (.v (ret (.int 1))))) (Lw.tNot (tB (m1 (dIsP excs isVal) (.n 7))))) (sRet (ret (.str "odd"))) (sNx)) (sSeq (sIf (Lw.tOr (tB (mV 2)) (tB (m2 dEq (.v (m2 dIx (.n 5) (.v (ret (.int 0))))) (.v (ret (.str "shape")))))) (sRet (mTup (aCons (m2 dIx (.n 5) (.v (ret (.int 0)))) (aCons (m1 (dFld excs "value") (.n 7)) (aNil))))) (sNx)) (sSeq (sIf (tB (m2 dIn (.v (m2 dIx (.n 5) (.v (ret (.int 0))))) (.v (mTup (aCons (ret (.str "letters")) (aCons (ret (.str "deed")) (aCons (ret (.str "move")) (aNil)))))))) (sRet (mTup (aCons (m2 dIx (.n 5) (.v (ret (.int 0)))) (aCons (m1 (dFld excs "place") (.n 7)) (aNil))))) (sNx)) (sRet (mIf (tB (m2 dEq (.v (m2 dIx (.n 5) (.v (ret (.int 0))))) (.v (ret (.str "table"))))) (mTup (aCons (ret (.str "table")) (aCons (m1 (dFld excs "row") (.n 7)) (aNil)))) (m2 dIx (.n 5) (.v (ret (.int 0)))))))))))))))))))
def hst (x : D) (ds : Option DSt) : S := ⟨[some (.f 0), none, none, none, none, none, some (.d (.lst [])), some (.d x), none, none], ds⟩
def outR (r : Res Fl) : Option (D × Option DSt) := match r with
  | .ok (.rt d) s => some (d, s.ds)
  | _ => none
theorem heard_er {m : M D} {σ σ' : List (Option Sl)} {ds ds' : Option DSt} {c : String} {fs : List D} {d : D} (h : m ⟨dropO σ, ds⟩ = .er (.exc c fs) ⟨σ', ds'⟩) (hc : excs.contains c = true) (hf : outR (hrest (hst (.exc c fs) ds')) = some (d, ds')) : mHear 9 h__law_heard m ⟨σ, ds⟩ = .ok d ⟨σ, ds'⟩ := by
  have hc : c ∈ excs := List.contains_iff_mem.mp hc
  have e : h__law_heard (act 0 m σ) ⟨some (.f 0) :: List.replicate 9 none, ds⟩ = hrest (hst (.exc c fs) ds') := by
    unfold h__law_heard
    rw [seq_ok (s' := ⟨[some (.f 0), none, none, none, none, none, some (.d (.lst [])), some (.d .non), none, none], ds⟩) (by simp)]
    refine (seq_ok (s' := hst (.exc c fs) ds') ?_).trans rfl
    simp [sTry, act, h, hc, hst]
  unfold mHear
  dsimp only
  rw [e]
  revert hf
  cases hrest (hst (.exc c fs) ds') with
  | no => intro hf; cases hf
  | er _ _ => intro hf; cases hf
  | ok fl s =>
    cases fl with
    | rt y =>
      intro hf
      cases hf
      rfl
    | _ => intro hf; cases hf
theorem heard_deed (x : D) (ds : Option DSt) : outR (hrest (hst (.exc "BadDeed" [x]) ds)) = some (.tup [.str "deed", x], ds) := by kernel_rfl
theorem heard_size (x : D) (ds : Option DSt) : outR (hrest (hst (.exc "BadSize" [x]) ds)) = some (.tup [.str "size", x], ds) := by kernel_rfl
/-! ### _law_like, _law_is_word -/
theorem like_ok {a : D} (r : isRef a = true) (h : Shw 50 line a) (ds : Option DSt) : f__law_like [a, a] ds = .ok (.bl true) ds := by
  have h1 := repr_ok r h
  have h2 := eq_repr (d := .non) h.ok
  refine fn_rt (s := ⟨[some (.d a), some (.d a)], ds⟩) rfl ?_
  simp [b__law_like, h1, h2]
theorem like_bl {a b : D} (ra : isRef a = true) (rb : isRef b = true) (ha : Shw 50 line a) (hb : Shw 50 line b) (ds : Option DSt) : ∃ t, f__law_like [a, b] ds = .ok (.bl t) ds := by
  have h1 := repr_ok ra ha
  have h2 := repr_ok rb hb
  have h3 := eq_str ha.ok hb.ok
  refine ⟨(toP a).shown == (toP b).shown, fn_rt (s := ⟨[some (.d a), some (.d b)], ds⟩) rfl ?_⟩
  simp [b__law_like, h1, h2, h3]
@[simp] theorem is_word (a : List D) : dIsC clsN "Word" (.obj "Word" a) = some (.bl true) := rfl
theorem isw_ok {n : Int} {cs : List Int} (h1 : 2 ≤ n) (h2 : n ≤ 6) (hl : cs.length ≤ 1000) (ha : ∀ x ∈ cs, -100000 ≤ x ∧ x ≤ 100000) (ds : Option DSt) : f__law_is_word [wordD n cs, .int n, .lst (cs.map .int)] ds = .ok (.bl true) ds := by
  have sT := shw_tupI (w := 300000) ha (by omega)
  have sP : Shw 2 700000 (.tup [.int n, .tup (cs.map .int)]) := Shw.tup (v := 300000) (fun x hx => by
    simp only [List.mem_cons, List.not_mem_nil, or_false] at hx
    rcases hx with rfl | rfl
    · exact Shw.i64 (by omega) (by omega) (by decide)
    · exact sT) (by show 2 * 300002 + 3 ≤ 700000; decide)
  have rT := repr_ok (d := .tup [.int n, .tup (cs.map .int)]) rfl (sP.mono (by decide) (by decide))
  have eT := eq_repr (d := .non) sP.ok
  refine fn_rt (s := ⟨[some (.d (wordD n cs)), some (.d (.int n)), some (.d (.lst (cs.map .int)))], ds⟩) rfl ?_
  simp [b__law_is_word, wordD, rT, eT]
end Lw

set_option Elab.async false
set_option linter.all false
set_option maxRecDepth 100000
set_option maxHeartbeats 4000000
/-! k08: _law_all, _law_back_right, _law_odd, the law. -/
namespace Lw
open PySem
/-! ### values that are no deed -/
structure Odd1 (n : Int) (x : D) : Prop where
  ty : tyD x ≠ none
  rf : isRef x = true
  sh : Shw 2 1000 x
  gd : gdD n x = false ∨ x = .int (1 - n)
theorem ten30 : dPw (.int 10) (.int 30) = some (.int 1000000000000000000000000000000) := by rfl
end Lw

set_option Elab.async false
set_option linter.all false
set_option maxRecDepth 100000
set_option maxHeartbeats 4000000
/-! moves of neighboring letters, and of falling rows. -/
namespace Lw
open PySem
inductive Kd where
  | fst | lst | out | inn
def kn : Kd → Str
  | .fst => "first"
  | .lst => "last"
  | .out => "out"
  | .inn => "in"
def fl (n : Int) : List Int := dn n 0
theorem fl_len {n : Int} (h : 0 ≤ n) : ((fl n).length : Int) = n := by
  unfold fl
  rw [dn_len]
  omega
theorem fl_in {n : Int} : ∀ c ∈ fl n, 1 ≤ c ∧ c ≤ n := fun c hc => by
  have := dn_mem hc
  omega
/-- the letters that come of a move -/
def mvd (n : Int) (cs : List Int) (k : Kd) (p : Int) : Option (List Int) := if p < 0 then none else match k with
  | .inn => if p ≤ cs.length then some (cs.take p.toNat ++ fl n ++ cs.drop p.toNat) else none
  | .out => if (cs.drop p.toNat).take n.toNat = fl n then some (cs.take p.toNat ++ cs.drop (p + n).toNat) else none
  | .fst => match cs.drop p.toNat with
    | a :: b :: c :: r => if (a ≤ c ∧ c < b) ∨ (b ≤ c ∧ c < a) then some (cs.take p.toNat ++ b :: a :: c :: r) else none
    | _ => none
  | .lst => match cs.drop p.toNat with
    | a :: b :: c :: r => if (b < a ∧ a ≤ c) ∨ (c < a ∧ a ≤ b) then some (cs.take p.toNat ++ a :: c :: b :: r) else none
    | _ => none
theorem cut_midI {cs : List Int} {p k : Int} (h : 0 ≤ p) (hk : 0 ≤ k) : cut (cs.map D.int) (some p) (some (p + k)) = ((cs.drop p.toNat).take k.toNat).map .int := by
  have e1 : ∀ d, HT.sIx (cs.map D.int).length d (some p) = min p.toNat (cs.map D.int).length := fun d => if_neg (by omega)
  have e2 : ∀ d, HT.sIx (cs.map D.int).length d (some (p + k)) = min (p + k).toNat (cs.map D.int).length := fun d => if_neg (by omega)
  unfold cut
  rw [e1, e2, List.length_map]
  by_cases hp : p.toNat ≤ cs.length
  · rw [Nat.min_eq_left hp]
    by_cases hq : (p + k).toNat ≤ cs.length
    · rw [Nat.min_eq_left hq, ← List.map_drop, ← List.map_take]
      congr 2
      omega
    · rw [Nat.min_eq_right (by omega), ← List.map_drop, ← List.map_take, List.take_of_length_le (by simp), List.take_of_length_le (by simp; omega)]
  · rw [Nat.min_eq_right (by omega : cs.length ≤ p.toNat), List.drop_eq_nil_of_le (by simp), List.drop_eq_nil_of_le (by omega)]
    simp
theorem drop3 {cs : List Int} {p : Int} (h : 0 ≤ p) (hl : p + 3 ≤ cs.length) : ∃ A a b c r, cs = A ++ a :: b :: c :: r ∧ A.length = p.toNat := by
  refine ⟨cs.take p.toNat, cs[p.toNat]'(by omega), cs[p.toNat + 1]'(by omega), cs[p.toNat + 2]'(by omega), cs.drop (p.toNat + 3), ?_, by simp; omega⟩
  rw [← List.drop_eq_getElem_cons, ← List.drop_eq_getElem_cons, ← List.drop_eq_getElem_cons, List.take_append_drop]
theorem short3 {cs : List Int} {p : Int} (h : 0 ≤ p) (hl : ¬ p + 3 ≤ cs.length) : ∀ a b c r, cs.drop p.toNat ≠ a :: b :: c :: r := fun a b c r e => by
  have := congrArg List.length e
  simp at this
  omega
theorem fall_ok {n : Int} (h1 : 2 ≤ n) (h2 : n ≤ 6) (ds : Option DSt) : f_fall [.int n] ds = .ok (.tup ((fl n).map .int)) ds := by
  refine fn_rt (s := ⟨[some (.d (.int n))], ds⟩) rfl ?_
  have e := rg3_ok (a := n) (b := 0) (by omega) (by omega) (by omega) (by omega)
  simp [b_fall, e, fl]
@[simp] theorem eq_kn (k j : Kd) : dEq (.str (kn k)) (.str (kn j)) = some (.bl (decide (kn k = kn j))) := by
  cases k <;> cases j <;> kernel_rfl
theorem kn_in (k : Kd) : dEq (.str (kn k)) (.str "in") = some (.bl (match k with | .inn => true | _ => false)) := by cases k <;> kernel_rfl
theorem kn_out (k : Kd) : dEq (.str (kn k)) (.str "out") = some (.bl (match k with | .out => true | _ => false)) := by cases k <;> kernel_rfl
theorem kn_fst (k : Kd) : dEq (.str (kn k)) (.str "first") = some (.bl (match k with | .fst => true | _ => false)) := by cases k <;> kernel_rfl
theorem kn_lst (k : Kd) : dEq (.str (kn k)) (.str "last") = some (.bl (match k with | .lst => true | _ => false)) := by cases k <;> kernel_rfl
theorem kn_mem (k : Kd) : dIn (.str (kn k)) (.tup [.str "first", .str "last", .str "out", .str "in"]) = some (.bl true) := by cases k <;> kernel_rfl
theorem szW (n : Int) (cs : List Int) : dSlot slots "size" (wordD n cs) = some (.int n) := rfl
theorem slW (n : Int) (cs : List Int) : dSlot slots "letters" (wordD n cs) = some (.tup (cs.map .int)) := rfl
def mvD (k : Kd) (p : Int) : D := .tup [.str (kn k), .int p]
theorem atI2_0 (x y : D) : L2.atI [x, y] 0 = some x := rfl
theorem atI2_1 (x y : D) : L2.atI [x, y] 1 = some y := rfl
theorem formed_ok {k : Kd} {p : Int} (ds : Option DSt) : f_is_formed [mvD k p] ds = .ok (.bl (decide (0 ≤ p) && decide (p ≤ 40))) ds := by
  have ha := among_ok (d := .int p) (by simp [tyD]) 0 40 ds
  refine fn_rt (s := ⟨[some (.d (mvD k p))], ds⟩) rfl ?_
  unfold b_is_formed
  rw [seq_ok (s' := ⟨[some (.d (mvD k p))], ds⟩) (by simp [mvD, dIsT, tyD, subT, atI2_0])]
  simp [mvD, atI2_0, atI2_1, kn_mem, ha, inR]
theorem can_mv {n p : Int} {cs : List Int} {k : Kd} (h1 : 2 ≤ n) (h2 : n ≤ 6) (hp : 0 ≤ p) (ds : Option DSt) : f_can_move [wordD n cs, mvD k p] ds = .ok (.bl (mvd n cs k p).isSome) ds := by
  have hf := fall_ok h1 h2 ds
  have np : ¬ p < 0 := by omega
  have gen : ∀ (x y z : Option Sl) (b : Bool), b_can_move ⟨start 8 [wordD n cs, mvD k p], ds⟩ = .ok (.rt (.bl b)) ⟨[some (.d (wordD n cs)), some (.d (mvD k p)), some (.d (.tup (cs.map .int))), some (.d (.str (kn k))), some (.d (.int p)), x, y, z], ds⟩ → b = (mvd n cs k p).isSome → f_can_move [wordD n cs, mvD k p] ds = .ok (.bl (mvd n cs k p).isSome) ds := fun x y z b e hb => by
    rw [← hb]
    exact fn_rt (s := ⟨[some (.d (wordD n cs)), some (.d (mvD k p)), some (.d (.tup (cs.map .int))), some (.d (.str (kn k))), some (.d (.int p)), x, y, z], ds⟩) rfl e
  have s1 : ∀ (b : M Fl), sSeq (sAsg (mV 1) (gU [gV 3, gV 4])) b ⟨start 8 [wordD n cs, mvD k p], ds⟩ = b ⟨[some (.d (wordD n cs)), some (.d (mvD k p)), none, some (.d (.str (kn k))), some (.d (.int p)), none, none, none], ds⟩ := fun b => seq_ok (by simp [mvD])
  have s2 : ∀ (b : M Fl), sSeq (sAsg (m1 (dSlot slots "letters") (.n 0)) (gV 2)) b ⟨[some (.d (wordD n cs)), some (.d (mvD k p)), none, some (.d (.str (kn k))), some (.d (.int p)), none, none, none], ds⟩ = b ⟨[some (.d (wordD n cs)), some (.d (mvD k p)), some (.d (.tup (cs.map .int))), some (.d (.str (kn k))), some (.d (.int p)), none, none, none], ds⟩ := fun b => seq_ok (by simp [slW])
  cases k with
  | inn =>
    refine gen none none none (decide (p ≤ cs.length)) ?_ (by simp [mvd, np]; by_cases h : p ≤ cs.length <;> simp [h])
    unfold b_can_move
    rw [s1, s2]
    exact seq_rt (by simp [kn_in])
  | out =>
    have hm := cut_midI (cs := cs) (p := p) (k := n) hp (by omega)
    have he := eq_tupI ((cs.drop p.toNat).take n.toNat) (fl n)
    refine gen none none none (decide ((cs.drop p.toNat).take n.toNat = fl n)) ?_ (by simp [mvd, np]; by_cases h : (cs.drop p.toNat).take n.toNat = fl n <;> simp [h])
    unfold b_can_move
    rw [s1, s2]
    rw [seq_ok (s' := ⟨[some (.d (wordD n cs)), some (.d (mvD .out p)), some (.d (.tup (cs.map .int))), some (.d (.str (kn .out))), some (.d (.int p)), none, none, none], ds⟩) (by simp [kn_in])]
    refine seq_rt ?_
    simp [-List.map_take, -List.map_drop, kn_out, szW, hm, hf, he]
  | fst =>
    by_cases hl : p + 3 ≤ cs.length
    · obtain ⟨A, a, b, c, r, rfl, hA⟩ := drop3 hp hl
      have nl : ¬ (((A ++ a :: b :: c :: r).length : Int) < p + 3) := by omega
      have hd : (A ++ a :: b :: c :: r).drop p.toNat = a :: b :: c :: r := by rw [← hA]; simp
      have hm := cut_midI (cs := A ++ a :: b :: c :: r) (p := p) (k := 3) hp (by omega)
      rw [hd] at hm
      have hm : cut ((A ++ a :: b :: c :: r).map D.int) (some p) (some (p + 3)) = [.int a, .int b, .int c] := hm
      generalize hX : (A ++ a :: b :: c :: r) = X at nl hd hm gen s1 s2 ⊢
      refine gen (some (.d (.int a))) (some (.d (.int b))) (some (.d (.int c))) (decide ((a ≤ c ∧ c < b) ∨ (b ≤ c ∧ c < a))) ?_ (by simp only [mvd, if_neg np, hd]; by_cases h : (a ≤ c ∧ c < b) ∨ (b ≤ c ∧ c < a) <;> simp [h])
      unfold b_can_move
      rw [s1, s2]
      rw [seq_ok (s' := ⟨[some (.d (wordD n X)), some (.d (mvD .fst p)), some (.d (.tup (X.map .int))), some (.d (.str (kn .fst))), some (.d (.int p)), none, none, none], ds⟩) (by simp [kn_in])]
      rw [seq_ok (s' := ⟨[some (.d (wordD n X)), some (.d (mvD .fst p)), some (.d (.tup (X.map .int))), some (.d (.str (kn .fst))), some (.d (.int p)), none, none, none], ds⟩) (by simp [kn_out])]
      rw [seq_ok (s' := ⟨[some (.d (wordD n X)), some (.d (mvD .fst p)), some (.d (.tup (X.map .int))), some (.d (.str (kn .fst))), some (.d (.int p)), none, none, none], ds⟩) (by simp [nl])]
      rw [seq_ok (s' := ⟨[some (.d (wordD n X)), some (.d (mvD .fst p)), some (.d (.tup (X.map .int))), some (.d (.str (kn .fst))), some (.d (.int p)), some (.d (.int a)), some (.d (.int b)), some (.d (.int c))], ds⟩) (by simp [hm])]
      refine seq_rt ?_
      by_cases q1 : a ≤ c <;> by_cases q2 : c < b <;> by_cases q3 : b ≤ c <;> by_cases q4 : c < a <;> simp [kn_fst, q1, q2, q3, q4]
    · have nl : (cs.length : Int) < p + 3 := by omega
      have hd := short3 hp hl
      refine gen none none none false ?_ (by
        simp only [mvd, if_neg np]
        first
          | rfl
          | (split
             · rename_i e
               exact absurd e (hd _ _ _ _)
             · rfl))
      unfold b_can_move
      rw [s1, s2]
      rw [seq_ok (s' := ⟨[some (.d (wordD n cs)), some (.d (mvD .fst p)), some (.d (.tup (cs.map .int))), some (.d (.str (kn .fst))), some (.d (.int p)), none, none, none], ds⟩) (by simp [kn_in])]
      rw [seq_ok (s' := ⟨[some (.d (wordD n cs)), some (.d (mvD .fst p)), some (.d (.tup (cs.map .int))), some (.d (.str (kn .fst))), some (.d (.int p)), none, none, none], ds⟩) (by simp [kn_out])]
      exact seq_rt (by simp [nl])
  | lst =>
    by_cases hl : p + 3 ≤ cs.length
    · obtain ⟨A, a, b, c, r, rfl, hA⟩ := drop3 hp hl
      have nl : ¬ (((A ++ a :: b :: c :: r).length : Int) < p + 3) := by omega
      have hd : (A ++ a :: b :: c :: r).drop p.toNat = a :: b :: c :: r := by rw [← hA]; simp
      have hm := cut_midI (cs := A ++ a :: b :: c :: r) (p := p) (k := 3) hp (by omega)
      rw [hd] at hm
      have hm : cut ((A ++ a :: b :: c :: r).map D.int) (some p) (some (p + 3)) = [.int a, .int b, .int c] := hm
      generalize hX : (A ++ a :: b :: c :: r) = X at nl hd hm gen s1 s2 ⊢
      refine gen (some (.d (.int a))) (some (.d (.int b))) (some (.d (.int c))) (decide ((b < a ∧ a ≤ c) ∨ (c < a ∧ a ≤ b))) ?_ (by simp only [mvd, if_neg np, hd]; by_cases h : (b < a ∧ a ≤ c) ∨ (c < a ∧ a ≤ b) <;> simp [h])
      unfold b_can_move
      rw [s1, s2]
      rw [seq_ok (s' := ⟨[some (.d (wordD n X)), some (.d (mvD .lst p)), some (.d (.tup (X.map .int))), some (.d (.str (kn .lst))), some (.d (.int p)), none, none, none], ds⟩) (by simp [kn_in])]
      rw [seq_ok (s' := ⟨[some (.d (wordD n X)), some (.d (mvD .lst p)), some (.d (.tup (X.map .int))), some (.d (.str (kn .lst))), some (.d (.int p)), none, none, none], ds⟩) (by simp [kn_out])]
      rw [seq_ok (s' := ⟨[some (.d (wordD n X)), some (.d (mvD .lst p)), some (.d (.tup (X.map .int))), some (.d (.str (kn .lst))), some (.d (.int p)), none, none, none], ds⟩) (by simp [nl])]
      rw [seq_ok (s' := ⟨[some (.d (wordD n X)), some (.d (mvD .lst p)), some (.d (.tup (X.map .int))), some (.d (.str (kn .lst))), some (.d (.int p)), some (.d (.int a)), some (.d (.int b)), some (.d (.int c))], ds⟩) (by simp [hm])]
      rw [seq_ok (s' := ⟨[some (.d (wordD n X)), some (.d (mvD .lst p)), some (.d (.tup (X.map .int))), some (.d (.str (kn .lst))), some (.d (.int p)), some (.d (.int a)), some (.d (.int b)), some (.d (.int c))], ds⟩) (by simp [kn_fst])]
      by_cases q1 : b < a <;> by_cases q2 : a ≤ c <;> by_cases q3 : c < a <;> by_cases q4 : a ≤ b <;> simp [q1, q2, q3, q4]
    · have nl : (cs.length : Int) < p + 3 := by omega
      have hd := short3 hp hl
      refine gen none none none false ?_ (by
        simp only [mvd, if_neg np]
        first
          | rfl
          | (split
             · rename_i e
               exact absurd e (hd _ _ _ _)
             · rfl))
      unfold b_can_move
      rw [s1, s2]
      rw [seq_ok (s' := ⟨[some (.d (wordD n cs)), some (.d (mvD .lst p)), some (.d (.tup (cs.map .int))), some (.d (.str (kn .lst))), some (.d (.int p)), none, none, none], ds⟩) (by simp [kn_in])]
      rw [seq_ok (s' := ⟨[some (.d (wordD n cs)), some (.d (mvD .lst p)), some (.d (.tup (cs.map .int))), some (.d (.str (kn .lst))), some (.d (.int p)), none, none, none], ds⟩) (by simp [kn_out])]
      exact seq_rt (by simp [nl])
/-! ### made, moved -/
theorem made_mv {n p : Int} {cs es : List Int} {k : Kd} (h1 : 2 ≤ n) (h2 : n ≤ 6) (hp : 0 ≤ p) (hl : cs.length ≤ 40) (he : mvd n cs k p = some es) (ds : Option DSt) {o : D} (hw : f_Word___init__ [.int n, .tup (es.map .int)] ds = .ok o ds) : f_made [wordD n cs, mvD k p] ds = .ok o ds := by
  have hf := fall_ok h1 h2 ds
  have np : ¬ p < 0 := by omega
  have big : (1000 : Nat) ≤ line := by decide
  have fln := fl_len (n := n) (by omega)
  have s1 : ∀ (b : M Fl), sSeq (sAsg (mV 1) (gU [gV 4, gV 5])) b ⟨start 6 [wordD n cs, mvD k p], ds⟩ = b ⟨[some (.d (wordD n cs)), some (.d (mvD k p)), none, none, some (.d (.str (kn k))), some (.d (.int p))], ds⟩ := fun b => seq_ok (by simp [mvD])
  have s2 : ∀ (b : M Fl), sSeq (sAsg (m1 (dSlot slots "letters") (.n 0)) (gV 2)) b ⟨[some (.d (wordD n cs)), some (.d (mvD k p)), none, none, some (.d (.str (kn k))), some (.d (.int p))], ds⟩ = b ⟨[some (.d (wordD n cs)), some (.d (mvD k p)), some (.d (.tup (cs.map .int))), none, some (.d (.str (kn k))), some (.d (.int p))], ds⟩ := fun b => seq_ok (by simp [slW])
  cases k with
  | inn =>
    simp only [mvd, if_neg np] at he
    split at he
    · cases he
      refine fn_rt (s := ⟨[some (.d (wordD n cs)), some (.d (mvD .inn p)), some (.d (.tup (cs.map .int))), none, some (.d (.str (kn .inn))), some (.d (.int p))], ds⟩) rfl ?_
      unfold b_made
      rw [s1, s2]
      refine seq_rt ?_
      have g1 : (cs.take p.toNat).length + (fl n).length ≤ line := by rw [List.length_take]; omega
      have g2 : (cs.take p.toNat).length + (fl n).length + (cs.drop p.toNat).length ≤ line := by rw [List.length_take, List.length_drop]; omega
      rw [List.map_append, List.map_append] at hw
      rw [List.append_assoc] at hw
      simp [-List.map_take, -List.map_drop, -List.length_take, -List.length_drop, kn_in, szW, cut_takeI hp, cut_dropI hp, hf, g1, g2, hw]
    · cases he
  | out =>
    simp only [mvd, if_neg np] at he
    split at he
    · cases he
      refine fn_rt (s := ⟨[some (.d (wordD n cs)), some (.d (mvD .out p)), some (.d (.tup (cs.map .int))), none, some (.d (.str (kn .out))), some (.d (.int p))], ds⟩) rfl ?_
      unfold b_made
      rw [s1, s2]
      rw [seq_ok (s' := ⟨[some (.d (wordD n cs)), some (.d (mvD .out p)), some (.d (.tup (cs.map .int))), none, some (.d (.str (kn .out))), some (.d (.int p))], ds⟩) (by simp [kn_in])]
      refine seq_rt ?_
      have g1 : (cs.take p.toNat).length + (cs.drop (p + n).toNat).length ≤ line := by rw [List.length_take, List.length_drop]; omega
      rw [List.map_append] at hw
      simp [-List.map_take, -List.map_drop, -List.length_take, -List.length_drop, kn_out, szW, cut_takeI hp, cut_dropI (k := p + n) (by omega), g1, hw]
    · cases he
  | fst =>
    simp only [mvd, if_neg np] at he
    split at he
    · rename_i a b c r hd
      split at he
      · cases he
        have hcs : cs = cs.take p.toNat ++ a :: b :: c :: r := by rw [← hd, List.take_append_drop]
        have hA : (cs.take p.toNat).length = p.toNat := by
          have := congrArg List.length hd
          simp at this
          simp
          omega
        generalize hX : cs = X at hcs hA hw s1 s2 hl ⊢
        generalize X.take p.toNat = A at hcs hA hw
        have i1 : L2.atI (X.map D.int) (p + 1) = some (.int b) := by
          rw [hcs]
          have := atI_mid (A := A ++ [a]) (B := c :: r) (x := b) (k := p + 1) (by simp; omega)
          simpa using this
        have i2 : L2.atI (X.map D.int) p = some (.int a) := by
          rw [hcs]
          exact atI_mid (by omega)
        have c1 : cut (X.map D.int) none (some p) = A.map .int := by rw [cut_takeI hp, hcs, ← hA]; simp
        have c2 : cut (X.map D.int) (some (p + 2)) none = (c :: r).map .int := by
          rw [cut_dropI (by omega), hcs, show (p + 2).toNat = A.length + 2 by omega]
          simp
        have hz : A.length + (r.length + 3) ≤ 40 := by
          have := congrArg List.length hcs
          simp at this
          omega
        have g1 : A.length + 2 ≤ line := by omega
        have g2 : A.length + 2 + (r.length + 1) ≤ line := by omega
        have g3 : A.length + (r.length + 1 + 1 + 1) ≤ line := by omega
        refine fn_rt (s := ⟨[some (.d (wordD n X)), some (.d (mvD .fst p)), some (.d (.tup (X.map .int))), some (.d (.int p)), some (.d (.str (kn .fst))), some (.d (.int p))], ds⟩) rfl ?_
        unfold b_made
        rw [s1, s2]
        rw [seq_ok (s' := ⟨[some (.d (wordD n X)), some (.d (mvD .fst p)), some (.d (.tup (X.map .int))), none, some (.d (.str (kn .fst))), some (.d (.int p))], ds⟩) (by simp [kn_in])]
        rw [seq_ok (s' := ⟨[some (.d (wordD n X)), some (.d (mvD .fst p)), some (.d (.tup (X.map .int))), none, some (.d (.str (kn .fst))), some (.d (.int p))], ds⟩) (by simp [kn_out])]
        rw [seq_ok (s' := ⟨[some (.d (wordD n X)), some (.d (mvD .fst p)), some (.d (.tup (X.map .int))), some (.d (.int p)), some (.d (.str (kn .fst))), some (.d (.int p))], ds⟩) (by simp [kn_fst])]
        rw [List.map_append] at hw
        simp at hw
        simp [szW, c1, c2, i1, i2, g1, g2, g3, hw]
      · cases he
    · cases he
  | lst =>
    simp only [mvd, if_neg np] at he
    split at he
    · rename_i a b c r hd
      split at he
      · cases he
        have hcs : cs = cs.take p.toNat ++ a :: b :: c :: r := by rw [← hd, List.take_append_drop]
        have hA : (cs.take p.toNat).length = p.toNat := by
          have := congrArg List.length hd
          simp at this
          simp
          omega
        generalize hX : cs = X at hcs hA hw s1 s2 hl ⊢
        generalize X.take p.toNat = A at hcs hA hw
        have i1 : L2.atI (X.map D.int) (p + 1 + 1) = some (.int c) := by
          rw [hcs]
          have := atI_mid (A := A ++ [a, b]) (B := r) (x := c) (k := p + 1 + 1) (by simp; omega)
          simpa using this
        have i2 : L2.atI (X.map D.int) (p + 1) = some (.int b) := by
          rw [hcs]
          have := atI_mid (A := A ++ [a]) (B := c :: r) (x := b) (k := p + 1) (by simp; omega)
          simpa using this
        have c1 : cut (X.map D.int) none (some (p + 1)) = (A ++ [a]).map .int := by
          rw [cut_takeI (by omega), hcs, show (p + 1).toNat = A.length + 1 by omega, List.take_append, List.take_of_length_le (by omega)]
          simp
        have c2 : cut (X.map D.int) (some (p + 1 + 2)) none = r.map .int := by
          rw [cut_dropI (by omega), hcs, show (p + 1 + 2).toNat = A.length + 3 by omega]
          simp
        have hz : A.length + (r.length + 3) ≤ 40 := by
          have := congrArg List.length hcs
          simp at this
          omega
        have g1 : A.length + 1 + 2 ≤ line := by omega
        have g2 : A.length + 1 + 2 + r.length ≤ line := by omega
        have g3 : A.length + (r.length + 1 + 1 + 1) ≤ line := by omega
        have g4 : A.length + 3 + r.length ≤ line := by omega
        have g5 : A.length + 3 ≤ line := by omega
        refine fn_rt (s := ⟨[some (.d (wordD n X)), some (.d (mvD .lst p)), some (.d (.tup (X.map .int))), some (.d (.int (p + 1))), some (.d (.str (kn .lst))), some (.d (.int p))], ds⟩) rfl ?_
        unfold b_made
        rw [s1, s2]
        rw [seq_ok (s' := ⟨[some (.d (wordD n X)), some (.d (mvD .lst p)), some (.d (.tup (X.map .int))), none, some (.d (.str (kn .lst))), some (.d (.int p))], ds⟩) (by simp [kn_in])]
        rw [seq_ok (s' := ⟨[some (.d (wordD n X)), some (.d (mvD .lst p)), some (.d (.tup (X.map .int))), none, some (.d (.str (kn .lst))), some (.d (.int p))], ds⟩) (by simp [kn_out])]
        rw [seq_ok (s' := ⟨[some (.d (wordD n X)), some (.d (mvD .lst p)), some (.d (.tup (X.map .int))), some (.d (.int (p + 1))), some (.d (.str (kn .lst))), some (.d (.int p))], ds⟩) (by simp [kn_fst])]
        rw [List.map_append] at hw
        simp at hw
        rw [List.map_append] at c1
        simp at c1
        simp [szW, c1, c2, i1, i2, g1, g2, g3, g4, g5, hw]
      · cases he
    · cases he
end Lw

set_option Elab.async false
set_option linter.all false
set_option maxRecDepth 100000
set_option maxHeartbeats 4000000
/-! moved, walked; _law_moved. -/
namespace Lw
open PySem
theorem fl_ne {n : Int} (h : 2 ≤ n) : fl n ≠ [] := fun e => by
  have := fl_len (n := n) (by omega)
  rw [e] at this
  simp at this
  omega
theorem mvd_far {n p : Int} {cs : List Int} {k : Kd} (h1 : 2 ≤ n) (hp : (cs.length : Int) < p) : mvd n cs k p = none := by
  have np : ¬ p < 0 := by omega
  have hd : cs.drop p.toNat = [] := List.drop_eq_nil_of_le (by omega)
  cases k with
  | inn => simp only [mvd, if_neg np]; rw [if_neg (by omega)]
  | out =>
    simp only [mvd, if_neg np, hd]
    rw [if_neg (by simpa using (fl_ne h1).symm)]
  | fst => simp only [mvd, if_neg np, hd]
  | lst => simp only [mvd, if_neg np, hd]
theorem mvd_in {n p : Int} {cs es : List Int} {k : Kd} (h : mvd n cs k p = some es) (hc : ∀ c ∈ cs, 1 ≤ c ∧ c ≤ n) : ∀ c ∈ es, 1 ≤ c ∧ c ≤ n := by
  unfold mvd at h
  split at h
  · cases h
  · have ht : ∀ c ∈ cs.take p.toNat, 1 ≤ c ∧ c ≤ n := fun c hx => hc c (List.mem_of_mem_take hx)
    have hd : ∀ q, ∀ c ∈ cs.drop q, 1 ≤ c ∧ c ≤ n := fun q c hx => hc c (List.mem_of_mem_drop hx)
    cases k with
    | inn =>
      dsimp only at h
      split at h
      · cases h
        exact app_in (app_in ht fl_in) (hd _)
      · cases h
    | out =>
      dsimp only at h
      split at h
      · cases h
        exact app_in ht (hd _)
      · cases h
    | fst =>
      dsimp only at h
      split at h
      · rename_i a b c r e
        split at h
        · cases h
          have := hd p.toNat
          rw [e] at this
          refine app_in ht fun x hx => this x ?_
          simp only [List.mem_cons] at hx ⊢
          rcases hx with h | h | h | h <;> simp [h]
        · cases h
      · cases h
    | lst =>
      dsimp only at h
      split at h
      · rename_i a b c r e
        split at h
        · cases h
          have := hd p.toNat
          rw [e] at this
          refine app_in ht fun x hx => this x ?_
          simp only [List.mem_cons] at hx ⊢
          rcases hx with h | h | h | h <;> simp [h]
        · cases h
      · cases h
theorem mvd_len {n p : Int} {cs es : List Int} {k : Kd} (h0 : 0 ≤ n) (h : mvd n cs k p = some es) : (es.length : Int) ≤ cs.length + n := by
  unfold mvd at h
  split at h
  · cases h
  · cases k with
    | inn =>
      dsimp only at h
      split at h
      · cases h
        have := fl_len h0
        simp
        omega
      · cases h
    | out =>
      dsimp only at h
      split at h
      · cases h
        simp
        omega
      · cases h
    | fst =>
      dsimp only at h
      split at h
      · rename_i a b c r e
        split at h
        · cases h
          have := congrArg List.length e
          simp at this
          simp
          omega
        · cases h
      · cases h
    | lst =>
      dsimp only at h
      split at h
      · rename_i a b c r e
        split at h
        · cases h
          have := congrArg List.length e
          simp at this
          simp
          omega
        · cases h
      · cases h
theorem mvd_long {n p : Int} {cs es : List Int} {k : Kd} (h0 : 0 ≤ n) (h : mvd n cs k p = some es) (hl : cs.length ≤ 40) (hg : 40 < es.length) : k = .inn ∧ 0 ≤ p ∧ es = cs.take p.toNat ++ fl n ++ cs.drop p.toNat := by
  unfold mvd at h
  split at h
  · cases h
  · cases k with
    | inn =>
      dsimp only at h
      split at h
      · cases h
        exact ⟨rfl, by omega, rfl⟩
      · cases h
    | out =>
      dsimp only at h
      split at h
      · cases h
        simp at hg
        omega
      · cases h
    | fst =>
      dsimp only at h
      split at h
      · rename_i a b c r e
        split at h
        · cases h
          have := congrArg List.length e
          simp at this
          simp at hg
          omega
        · cases h
      · cases h
    | lst =>
      dsimp only at h
      split at h
      · rename_i a b c r e
        split at h
        · cases h
          have := congrArg List.length e
          simp at this
          simp at hg
          omega
        · cases h
      · cases h
theorem made_great {n p : Int} {cs : List Int} (h1 : 2 ≤ n) (h2 : n ≤ 6) (hp : 0 ≤ p) (hl : cs.length ≤ 40) (ds : Option DSt) {x : D} (hw : f_Word___init__ [.int n, .tup ((cs.take p.toNat ++ fl n ++ cs.drop p.toNat).map .int)] ds = .er x ds) : f_made [wordD n cs, mvD .inn p] ds = .er x ds := by
  have hf := fall_ok h1 h2 ds
  have big : (1000 : Nat) ≤ line := by decide
  have fln := fl_len (n := n) (by omega)
  refine fn_er (s := ⟨[some (.d (wordD n cs)), some (.d (mvD .inn p)), some (.d (.tup (cs.map .int))), none, some (.d (.str (kn .inn))), some (.d (.int p))], ds⟩) rfl ?_
  unfold b_made
  rw [seq_ok (s' := ⟨[some (.d (wordD n cs)), some (.d (mvD .inn p)), none, none, some (.d (.str (kn .inn))), some (.d (.int p))], ds⟩) (by simp [mvD])]
  rw [seq_ok (s' := ⟨[some (.d (wordD n cs)), some (.d (mvD .inn p)), some (.d (.tup (cs.map .int))), none, some (.d (.str (kn .inn))), some (.d (.int p))], ds⟩) (by simp [slW])]
  refine seq_er ?_
  have g1 : (cs.take p.toNat).length + (fl n).length ≤ line := by rw [List.length_take]; omega
  have g2 : (cs.take p.toNat).length + (fl n).length + (cs.drop p.toNat).length ≤ line := by rw [List.length_take, List.length_drop]; omega
  rw [List.map_append, List.map_append, List.append_assoc] at hw
  simp [-List.map_take, -List.map_drop, -List.length_take, -List.length_drop, kn_in, szW, cut_takeI hp, cut_dropI hp, hf, g1, g2, hw]
/-- what moved_at tells -/
def mvR (n : Int) (num : D) (r : Option (List Int)) (ds : Option DSt) : Out := match r with
  | none => .er (.exc "BadMove" [num]) ds
  | some es => if es.length ≤ 40 then .ok (wordD n es) ds else .er (.exc "TooGreat" [.int 40]) ds
theorem movedat_bad {w x num : D} {ds : Option DSt} (h : f_is_formed [x] ds = .ok (.bl false) ds) : f_moved_at [w, x, num] ds = .er (.exc "BadMove" [num]) ds := by
  refine fn_er (s := ⟨[some (.d w), some (.d x), some (.d num)], ds⟩) rfl ?_
  unfold b_moved_at
  refine seq_er ?_
  simp [h]
theorem movedat_ok {n p : Int} {cs : List Int} {k : Kd} {num : D} (h1 : 2 ≤ n) (h2 : n ≤ 6) (hl : cs.length ≤ 40) (hc : ∀ c ∈ cs, 1 ≤ c ∧ c ≤ n) (ds : Option DSt) : f_moved_at [wordD n cs, mvD k p, num] ds = mvR n num (mvd n cs k p) ds := by
  have hf := formed_ok (k := k) (p := p) ds
  by_cases hp : 0 ≤ p ∧ p ≤ 40
  · have hf : f_is_formed [mvD k p] ds = .ok (.bl true) ds := by rw [hf]; simp [hp]
    have hcan := can_mv (cs := cs) (k := k) h1 h2 hp.1 ds
    cases e : mvd n cs k p with
    | none =>
      rw [e] at hcan
      refine fn_er (s := ⟨[some (.d (wordD n cs)), some (.d (mvD k p)), some (.d num)], ds⟩) rfl ?_
      unfold b_moved_at
      refine seq_er ?_
      simp [hf, hcan]
    | some es =>
      rw [e] at hcan
      have s1 : ∀ b : M Fl, sSeq (sIf (Lw.tOr (Lw.tNot (tB (mCall f_is_formed (aCons (mV 1) (aNil))))) (Lw.tNot (tB (mCall f_can_move (aCons (mV 0) (aCons (mV 1) (aNil))))))) (sRaise (mExc "BadMove" (aCons (mV 2) (aNil)))) (sNx)) b ⟨start 3 [wordD n cs, mvD k p, num], ds⟩ = b ⟨[some (.d (wordD n cs)), some (.d (mvD k p)), some (.d num)], ds⟩ := fun b => seq_ok (by simp [hf, hcan])
      by_cases hz : es.length ≤ 40
      · have hw := word_int (d := .tup (es.map .int)) h1 h2 (.inr rfl) hz (mvd_in e hc) ds
        have hm := made_mv h1 h2 hp.1 hl e ds hw
        show f_moved_at _ _ = (if es.length ≤ 40 then _ else _)
        rw [if_pos hz]
        refine fn_rt (s := ⟨[some (.d (wordD n cs)), some (.d (mvD k p)), some (.d num)], ds⟩) rfl ?_
        unfold b_moved_at
        rw [s1]
        simp [hm]
      · obtain ⟨rfl, hp0, rfl⟩ := mvd_long (by omega) e hl (by omega)
        have hw := word_great (n := n) (d := .tup ((cs.take p.toNat ++ fl n ++ cs.drop p.toNat).map .int)) h1 h2 (.inr rfl) (by rw [List.length_map]; omega) ds
        have hm := made_great h1 h2 hp.1 hl ds hw
        show f_moved_at _ _ = (if _ then _ else _)
        rw [if_neg hz]
        refine fn_er (s := ⟨[some (.d (wordD n cs)), some (.d (mvD .inn p)), some (.d num)], ds⟩) rfl ?_
        unfold b_moved_at
        rw [s1]
        simp [hm]
  · have hf : f_is_formed [mvD k p] ds = .ok (.bl false) ds := by
      rw [hf]
      by_cases h : 0 ≤ p
      · have : ¬ p ≤ 40 := fun z => hp ⟨h, z⟩
        simp [this]
      · simp [h]
    have e : mvd n cs k p = none := by
      by_cases h : p < 0
      · simp [mvd, h]
      · exact mvd_far h1 (by omega)
    rw [e]
    exact movedat_bad hf
/-! ### _law_moved -/
theorem kn_nmem (k : Kd) : dNin (.str (kn k)) (.tup [.str "first", .str "last", .str "in", .str "out"]) = some (.bl false) := by cases k <;> kernel_rfl
theorem lformed_ok {k : Kd} {p : Int} (ds : Option DSt) : f__law_formed [mvD k p] ds = .ok (.bl (decide (0 ≤ p))) ds := by
  refine fn_rt (s := ⟨[some (.d (mvD k p))], ds⟩) rfl ?_
  unfold b__law_formed
  rw [seq_ok (s' := ⟨[some (.d (mvD k p))], ds⟩) (by simp [mvD, dIsT, tyD, subT, atI2_0])]
  rw [seq_ok (s' := ⟨[some (.d (mvD k p))], ds⟩) (by simp [mvD, dIsT, tyD, subT, atI2_0, atI2_1, kn_nmem])]
  simp [mvD, dIsT, tyD, subT, atI2_1]
theorem lmoved_ok {n p : Int} {cs : List Int} {k : Kd} (h1 : 2 ≤ n) (h2 : n ≤ 6) (hl : cs.length ≤ 40) (ds : Option DSt) : f__law_moved [.int n, .lst (cs.map .int), mvD k p] ds = .ok (ofL (mvd n cs k p)) ds := by
  have hf := lformed_ok (k := k) (p := p) ds
  have big : (1000 : Nat) ≤ line := by decide
  have fln := fl_len (n := n) (by omega)
  have at1 : L2.atI [D.str (kn k), D.int p] 1 = some (.int p) := rfl
  by_cases hp : 0 ≤ p ∧ p ≤ cs.length
  case neg =>
    have e : mvd n cs k p = none := by
      by_cases h : p < 0
      · simp [mvd, h]
      · exact mvd_far h1 (by omega)
    rw [e]
    refine fn_rt (s := ⟨[some (.d (.int n)), some (.d (.lst (cs.map .int))), some (.d (mvD k p)), none, none, none, none, none, none], ds⟩) rfl ?_
    unfold b__law_moved
    refine seq_rt ?_
    by_cases h : 0 ≤ p
    · have : (cs.length : Int) < p := by omega
      have hf' := hf
      rw [decide_eq_true h] at hf'
      simp only [mvD] at hf' ⊢
      simp [hf', at1, this, ofL]
    · simp [hf, h, ofL]
  have np : ¬ p < 0 := by omega
  have nl0 : ¬ (cs.length : Int) < p := by omega
  have hf : f__law_formed [mvD k p] ds = .ok (.bl true) ds := by rw [hf]; simp [hp]
  have r3 := rg3_ok (a := n) (b := 0) (by omega) (by omega) (by omega) (by omega)
  have efl : dn n 0 = fl n := rfl
  rw [efl] at r3
  have s0 : ∀ b : M Fl, sSeq (sIf (Lw.tOr (Lw.tNot (tB (mCall f__law_formed (aCons (mV 2) (aNil))))) (tB (m2 dGt (.v (m2 dIx (.n 2) (.v (ret (.int 1))))) (.v (mBi dLen [.n 1]))))) (sRet (ret .non)) (sNx)) b ⟨start 9 [.int n, .lst (cs.map .int), mvD k p], ds⟩ = b ⟨[some (.d (.int n)), some (.d (.lst (cs.map .int))), some (.d (mvD k p)), none, none, none, none, none, none], ds⟩ := fun b => seq_ok (by
    have hf' := hf
    simp only [mvD] at hf' ⊢
    simp [hf', at1, nl0])
  have s1 : ∀ b : M Fl, sSeq (sAsg (mV 2) (gU [gV 4, gV 5])) b ⟨[some (.d (.int n)), some (.d (.lst (cs.map .int))), some (.d (mvD k p)), none, none, none, none, none, none], ds⟩ = b ⟨[some (.d (.int n)), some (.d (.lst (cs.map .int))), some (.d (mvD k p)), none, some (.d (.str (kn k))), some (.d (.int p)), none, none, none], ds⟩ := fun b => seq_ok (by simp [mvD])
  have s2 : ∀ b : M Fl, sSeq (sAsg (mF (mRg3 (aCons (mV 0) (aCons (ret (.int 0)) (aCons (m1 dNg (.v (ret (.int 1)))) (aNil)))))) (gV 3)) b ⟨[some (.d (.int n)), some (.d (.lst (cs.map .int))), some (.d (mvD k p)), none, some (.d (.str (kn k))), some (.d (.int p)), none, none, none], ds⟩ = b ⟨[some (.d (.int n)), some (.d (.lst (cs.map .int))), some (.d (mvD k p)), some (.d (.lst ((fl n).map .int))), some (.d (.str (kn k))), some (.d (.int p)), none, none, none], ds⟩ := fun b => seq_ok (by simp [r3])
  cases k with
  | inn =>
    have e : mvd n cs .inn p = some (cs.take p.toNat ++ fl n ++ cs.drop p.toNat) := by simp only [mvd, if_neg np]; rw [if_pos hp.2]
    rw [e]
    refine fn_rt (s := ⟨[some (.d (.int n)), some (.d (.lst (cs.map .int))), some (.d (mvD .inn p)), some (.d (.lst ((fl n).map .int))), some (.d (.str (kn .inn))), some (.d (.int p)), none, none, none], ds⟩) rfl ?_
    unfold b__law_moved
    rw [s0, s1, s2]
    refine seq_rt ?_
    have g1 : (cs.take p.toNat).length + (fl n).length ≤ line := by rw [List.length_take]; omega
    have g2 : (cs.take p.toNat).length + (fl n).length + (cs.drop p.toNat).length ≤ line := by rw [List.length_take, List.length_drop]; omega
    simp [-List.map_take, -List.map_drop, -List.length_take, -List.length_drop, kn_in, cut_takeI hp.1, cut_dropI hp.1, g1, g2, ofL]
  | out =>
    have hm := cut_midI (cs := cs) (p := p) (k := n) hp.1 (by omega)
    have he := eq_lstI ((cs.drop p.toNat).take n.toNat) (fl n)
    have g1 : (cs.take p.toNat).length + (cs.drop (p + n).toNat).length ≤ line := by rw [List.length_take, List.length_drop]; omega
    refine fn_rt (s := ⟨[some (.d (.int n)), some (.d (.lst (cs.map .int))), some (.d (mvD .out p)), some (.d (.lst ((fl n).map .int))), some (.d (.str (kn .out))), some (.d (.int p)), none, none, none], ds⟩) rfl ?_
    unfold b__law_moved
    rw [s0, s1, s2]
    rw [seq_ok (s' := ⟨[some (.d (.int n)), some (.d (.lst (cs.map .int))), some (.d (mvD .out p)), some (.d (.lst ((fl n).map .int))), some (.d (.str (kn .out))), some (.d (.int p)), none, none, none], ds⟩) (by simp [kn_in])]
    refine seq_rt ?_
    by_cases h : (cs.drop p.toNat).take n.toNat = fl n
    · have e : mvd n cs .out p = some (cs.take p.toNat ++ cs.drop (p + n).toNat) := by simp only [mvd, if_neg np]; rw [if_pos h]
      rw [e]
      rw [h] at he hm
      simp at he
      simp [-List.map_take, -List.map_drop, -List.length_take, -List.length_drop, kn_out, hm, he, cut_takeI hp.1, cut_dropI (k := p + n) (by omega), g1, ofL]
    · have e : mvd n cs .out p = none := by simp only [mvd, if_neg np]; rw [if_neg h]
      rw [e]
      rw [decide_eq_false h] at he
      simp [-List.map_take, -List.map_drop, kn_out, hm, he, ofL]
  | fst =>
    by_cases hl3 : p + 3 ≤ cs.length
    · obtain ⟨A, a, b, c, r, hX, hA⟩ := drop3 hp.1 hl3
      have nl : ¬ ((cs.length : Int) < p + 3) := by omega
      have hd : cs.drop p.toNat = a :: b :: c :: r := by rw [hX, ← hA]; simp
      have htk : cs.take p.toNat = A := by rw [hX, ← hA]; simp
      have hm := cut_midI (cs := cs) (p := p) (k := 3) hp.1 (by omega)
      rw [hd] at hm
      have hm : cut (cs.map D.int) (some p) (some (p + 3)) = [.int a, .int b, .int c] := hm
      have hz : A.length + (r.length + 3) ≤ 40 := by
        have := congrArg List.length hX
        simp at this
        omega
      have g1 : A.length + 2 ≤ line := by omega
      have g2 : A.length + 2 + (r.length + 1) ≤ line := by omega
      have g3 : A.length + (r.length + 1 + 1 + 1) ≤ line := by omega
      have g4 : A.length + 3 + r.length ≤ line := by omega
      have g5 : A.length + 3 ≤ line := by omega
      have g6 : A.length + 1 + 2 ≤ line := by omega
      have g7 : A.length + 1 + 2 + r.length ≤ line := by omega
      refine fn_rt (s := ⟨[some (.d (.int n)), some (.d (.lst (cs.map .int))), some (.d (mvD .fst p)), some (.d (.lst ((fl n).map .int))), some (.d (.str (kn .fst))), some (.d (.int p)), some (.d (.int a)), some (.d (.int b)), some (.d (.int c))], ds⟩) rfl ?_
      unfold b__law_moved
      rw [s0, s1, s2]
      rw [seq_ok (s' := ⟨[some (.d (.int n)), some (.d (.lst (cs.map .int))), some (.d (mvD .fst p)), some (.d (.lst ((fl n).map .int))), some (.d (.str (kn .fst))), some (.d (.int p)), none, none, none], ds⟩) (by simp [kn_in])]
      rw [seq_ok (s' := ⟨[some (.d (.int n)), some (.d (.lst (cs.map .int))), some (.d (mvD .fst p)), some (.d (.lst ((fl n).map .int))), some (.d (.str (kn .fst))), some (.d (.int p)), none, none, none], ds⟩) (by simp [kn_out])]
      rw [seq_ok (s' := ⟨[some (.d (.int n)), some (.d (.lst (cs.map .int))), some (.d (mvD .fst p)), some (.d (.lst ((fl n).map .int))), some (.d (.str (kn .fst))), some (.d (.int p)), none, none, none], ds⟩) (by simp [nl])]
      rw [seq_ok (s' := ⟨[some (.d (.int n)), some (.d (.lst (cs.map .int))), some (.d (mvD .fst p)), some (.d (.lst ((fl n).map .int))), some (.d (.str (kn .fst))), some (.d (.int p)), some (.d (.int a)), some (.d (.int b)), some (.d (.int c))], ds⟩) (by simp [hm])]
      by_cases h : (a ≤ c ∧ c < b) ∨ (b ≤ c ∧ c < a)
      · have e : mvd n cs .fst p = some (A ++ b :: a :: c :: r) := by simp only [mvd, if_neg np, hd]; rw [if_pos h, htk]
        rw [e]
        clear s0 s1 s2 hf e
        refine seq_rt ?_
        have c1 : cut (cs.map D.int) none (some p) = A.map .int := by rw [cut_takeI hp.1, hX, ← hA]; simp
        have c2 : cut (cs.map D.int) (some (p + 2)) none = (c :: r).map .int := by
          rw [cut_dropI (by omega), hX, show (p + 2).toNat = A.length + 2 by omega]
          simp
        by_cases q1 : a ≤ c <;> by_cases q2 : c < b <;> by_cases q3 : b ≤ c <;> by_cases q4 : c < a <;> simp [q1, q2, q3, q4] at h <;> simp [kn_fst, q1, q2, q3, q4, c1, c2, g1, g2, g3, g4, g5, g6, g7, ofL]
      · have e : mvd n cs .fst p = none := by simp only [mvd, if_neg np, hd]; rw [if_neg h]
        rw [e]
        clear s0 s1 s2 hf e
        rw [seq_ok (s' := ⟨[some (.d (.int n)), some (.d (.lst (cs.map .int))), some (.d (mvD .fst p)), some (.d (.lst ((fl n).map .int))), some (.d (.str (kn .fst))), some (.d (.int p)), some (.d (.int a)), some (.d (.int b)), some (.d (.int c))], ds⟩) (by by_cases q1 : a ≤ c <;> by_cases q2 : c < b <;> by_cases q3 : b ≤ c <;> by_cases q4 : c < a <;> simp [q1, q2, q3, q4] at h <;> simp [kn_fst, q1, q2, q3, q4])]
        rw [seq_ok (s' := ⟨[some (.d (.int n)), some (.d (.lst (cs.map .int))), some (.d (mvD .fst p)), some (.d (.lst ((fl n).map .int))), some (.d (.str (kn .fst))), some (.d (.int p)), some (.d (.int a)), some (.d (.int b)), some (.d (.int c))], ds⟩) (by simp [kn_lst])]
        simp [ofL]
    · have nl : (cs.length : Int) < p + 3 := by omega
      have hd := short3 hp.1 hl3
      have e : mvd n cs .fst p = none := by
        simp only [mvd, if_neg np]
        try first
          | rfl
          | (split
             · rename_i e
               exact absurd e (hd _ _ _ _)
             · rfl)
      rw [e]
      refine fn_rt (s := ⟨[some (.d (.int n)), some (.d (.lst (cs.map .int))), some (.d (mvD .fst p)), some (.d (.lst ((fl n).map .int))), some (.d (.str (kn .fst))), some (.d (.int p)), none, none, none], ds⟩) rfl ?_
      unfold b__law_moved
      rw [s0, s1, s2]
      rw [seq_ok (s' := ⟨[some (.d (.int n)), some (.d (.lst (cs.map .int))), some (.d (mvD .fst p)), some (.d (.lst ((fl n).map .int))), some (.d (.str (kn .fst))), some (.d (.int p)), none, none, none], ds⟩) (by simp [kn_in])]
      rw [seq_ok (s' := ⟨[some (.d (.int n)), some (.d (.lst (cs.map .int))), some (.d (mvD .fst p)), some (.d (.lst ((fl n).map .int))), some (.d (.str (kn .fst))), some (.d (.int p)), none, none, none], ds⟩) (by simp [kn_out])]
      exact seq_rt (by simp [nl, ofL])
  | lst =>
    by_cases hl3 : p + 3 ≤ cs.length
    · obtain ⟨A, a, b, c, r, hX, hA⟩ := drop3 hp.1 hl3
      have nl : ¬ ((cs.length : Int) < p + 3) := by omega
      have hd : cs.drop p.toNat = a :: b :: c :: r := by rw [hX, ← hA]; simp
      have htk : cs.take p.toNat = A := by rw [hX, ← hA]; simp
      have hm := cut_midI (cs := cs) (p := p) (k := 3) hp.1 (by omega)
      rw [hd] at hm
      have hm : cut (cs.map D.int) (some p) (some (p + 3)) = [.int a, .int b, .int c] := hm
      have hz : A.length + (r.length + 3) ≤ 40 := by
        have := congrArg List.length hX
        simp at this
        omega
      have g1 : A.length + 2 ≤ line := by omega
      have g2 : A.length + 2 + (r.length + 1) ≤ line := by omega
      have g3 : A.length + (r.length + 1 + 1 + 1) ≤ line := by omega
      have g4 : A.length + 3 + r.length ≤ line := by omega
      have g5 : A.length + 3 ≤ line := by omega
      have g6 : A.length + 1 + 2 ≤ line := by omega
      have g7 : A.length + 1 + 2 + r.length ≤ line := by omega
      refine fn_rt (s := ⟨[some (.d (.int n)), some (.d (.lst (cs.map .int))), some (.d (mvD .lst p)), some (.d (.lst ((fl n).map .int))), some (.d (.str (kn .lst))), some (.d (.int p)), some (.d (.int a)), some (.d (.int b)), some (.d (.int c))], ds⟩) rfl ?_
      unfold b__law_moved
      rw [s0, s1, s2]
      rw [seq_ok (s' := ⟨[some (.d (.int n)), some (.d (.lst (cs.map .int))), some (.d (mvD .lst p)), some (.d (.lst ((fl n).map .int))), some (.d (.str (kn .lst))), some (.d (.int p)), none, none, none], ds⟩) (by simp [kn_in])]
      rw [seq_ok (s' := ⟨[some (.d (.int n)), some (.d (.lst (cs.map .int))), some (.d (mvD .lst p)), some (.d (.lst ((fl n).map .int))), some (.d (.str (kn .lst))), some (.d (.int p)), none, none, none], ds⟩) (by simp [kn_out])]
      rw [seq_ok (s' := ⟨[some (.d (.int n)), some (.d (.lst (cs.map .int))), some (.d (mvD .lst p)), some (.d (.lst ((fl n).map .int))), some (.d (.str (kn .lst))), some (.d (.int p)), none, none, none], ds⟩) (by simp [nl])]
      rw [seq_ok (s' := ⟨[some (.d (.int n)), some (.d (.lst (cs.map .int))), some (.d (mvD .lst p)), some (.d (.lst ((fl n).map .int))), some (.d (.str (kn .lst))), some (.d (.int p)), some (.d (.int a)), some (.d (.int b)), some (.d (.int c))], ds⟩) (by simp [hm])]
      rw [seq_ok (s' := ⟨[some (.d (.int n)), some (.d (.lst (cs.map .int))), some (.d (mvD .lst p)), some (.d (.lst ((fl n).map .int))), some (.d (.str (kn .lst))), some (.d (.int p)), some (.d (.int a)), some (.d (.int b)), some (.d (.int c))], ds⟩) (by simp [kn_fst])]
      by_cases h : (b < a ∧ a ≤ c) ∨ (c < a ∧ a ≤ b)
      · have e : mvd n cs .lst p = some (A ++ a :: c :: b :: r) := by simp only [mvd, if_neg np, hd]; rw [if_pos h, htk]
        rw [e]
        clear s0 s1 s2 hf e
        refine seq_rt ?_
        have c1 : cut (cs.map D.int) none (some (p + 1)) = A.map .int ++ [.int a] := by
          rw [cut_takeI (by omega), hX, show (p + 1).toNat = A.length + 1 by omega, List.take_append, List.take_of_length_le (by omega)]
          simp
        have c2 : cut (cs.map D.int) (some (p + 3)) none = r.map .int := by
          rw [cut_dropI (by omega), hX, show (p + 3).toNat = A.length + 3 by omega]
          simp
        by_cases q1 : b < a <;> by_cases q2 : a ≤ c <;> by_cases q3 : c < a <;> by_cases q4 : a ≤ b <;> simp [q1, q2, q3, q4] at h <;> simp [kn_lst, q1, q2, q3, q4, c1, c2, g1, g2, g3, g4, g5, g6, g7, ofL]
      · have e : mvd n cs .lst p = none := by simp only [mvd, if_neg np, hd]; rw [if_neg h]
        rw [e]
        clear s0 s1 s2 hf e
        rw [seq_ok (s' := ⟨[some (.d (.int n)), some (.d (.lst (cs.map .int))), some (.d (mvD .lst p)), some (.d (.lst ((fl n).map .int))), some (.d (.str (kn .lst))), some (.d (.int p)), some (.d (.int a)), some (.d (.int b)), some (.d (.int c))], ds⟩) (by by_cases q1 : b < a <;> by_cases q2 : a ≤ c <;> by_cases q3 : c < a <;> by_cases q4 : a ≤ b <;> simp [q1, q2, q3, q4] at h <;> simp [kn_lst, q1, q2, q3, q4])]
        simp [ofL]
    · have nl : (cs.length : Int) < p + 3 := by omega
      have hd := short3 hp.1 hl3
      have e : mvd n cs .lst p = none := by
        simp only [mvd, if_neg np]
        try first
          | rfl
          | (split
             · rename_i e
               exact absurd e (hd _ _ _ _)
             · rfl)
      rw [e]
      refine fn_rt (s := ⟨[some (.d (.int n)), some (.d (.lst (cs.map .int))), some (.d (mvD .lst p)), some (.d (.lst ((fl n).map .int))), some (.d (.str (kn .lst))), some (.d (.int p)), none, none, none], ds⟩) rfl ?_
      unfold b__law_moved
      rw [s0, s1, s2]
      rw [seq_ok (s' := ⟨[some (.d (.int n)), some (.d (.lst (cs.map .int))), some (.d (mvD .lst p)), some (.d (.lst ((fl n).map .int))), some (.d (.str (kn .lst))), some (.d (.int p)), none, none, none], ds⟩) (by simp [kn_in])]
      rw [seq_ok (s' := ⟨[some (.d (.int n)), some (.d (.lst (cs.map .int))), some (.d (mvD .lst p)), some (.d (.lst ((fl n).map .int))), some (.d (.str (kn .lst))), some (.d (.int p)), none, none, none], ds⟩) (by simp [kn_out])]
      exact seq_rt (by simp [nl, ofL])
end Lw

set_option Elab.async false
set_option linter.all false
set_option maxRecDepth 100000
set_option maxHeartbeats 4000000
/-! rows of moves. -/
namespace Lw
open PySem
/-- what may stand in a row of moves -/
inductive Itm where
  | mv (q : Kd × Int)
  | bad (x : D)
def Itm.d : Itm → D
  | .mv q => mvD q.1 q.2
  | .bad x => x
def Itm.Ok : Itm → Prop
  | .mv _ => True
  | .bad x => ∀ ds, f_is_formed [x] ds = .ok (.bl false) ds ∧ f__law_formed [x] ds = .ok (.bl false) ds
def stp (n : Int) (cs : List Int) : Itm → Option (List Int)
  | .mv q => mvd n cs q.1 q.2
  | .bad _ => none
inductive Wk3 where
  | ok (cs : List Int)
  | bad (k : Nat)
  | great
def wk (n : Int) : Nat → List Itm → List Int → Wk3
  | _, [], cs => .ok cs
  | k, i :: r, cs => match stp n cs i with
    | none => .bad k
    | some es => if es.length ≤ 40 then wk n (k + 1) r es else .great
theorem stp_in {n : Int} {cs es : List Int} {i : Itm} (h : stp n cs i = some es) (hc : ∀ c ∈ cs, 1 ≤ c ∧ c ≤ n) : ∀ c ∈ es, 1 ≤ c ∧ c ≤ n := by
  cases i with
  | mv q => exact mvd_in h hc
  | bad x => cases h
theorem atstep {n : Int} {cs : List Int} {i : Itm} {num : D} (hi : i.Ok) (h1 : 2 ≤ n) (h2 : n ≤ 6) (hl : cs.length ≤ 40) (hc : ∀ c ∈ cs, 1 ≤ c ∧ c ≤ n) (ds : Option DSt) : f_moved_at [wordD n cs, i.d, num] ds = mvR n num (stp n cs i) ds := by
  cases i with
  | mv q => exact movedat_ok h1 h2 hl hc ds
  | bad x => exact movedat_bad (hi ds).1
theorem lstep {n : Int} {cs : List Int} {i : Itm} (hi : i.Ok) (h1 : 2 ≤ n) (h2 : n ≤ 6) (hl : cs.length ≤ 40) (ds : Option DSt) : f__law_moved [.int n, .lst (cs.map .int), i.d] ds = .ok (ofL (stp n cs i)) ds := by
  cases i with
  | mv q => exact lmoved_ok h1 h2 hl ds
  | bad x =>
    refine fn_rt (s := ⟨[some (.d (.int n)), some (.d (.lst (cs.map .int))), some (.d x), none, none, none, none, none, none], ds⟩) rfl ?_
    unfold b__law_moved
    refine seq_rt ?_
    have := (hi ds).2
    simp [Itm.d, this, stp, ofL]
/-! ### walked -/
def wkb : M Fl := sAsg (mCall f_moved_at (aCons (mV 0) (aCons (mV 3) (aCons (mV 2) (aNil))))) (gV 0)
theorem wk_loop {n : Int} {d : D} {ds : Option DSt} (h1 : 2 ≤ n) (h2 : n ≤ 6) : ∀ (r : List Itm) (k : Nat) (cs : List Int) (a b : Option Sl), (∀ i ∈ r, i.Ok) → cs.length ≤ 40 → (∀ c ∈ cs, 1 ≤ c ∧ c ≤ n) → ∃ a' b' cs', forL (gT [gV 2, gV 3]) wkb (enumF k (r.map Itm.d)) ⟨[some (.d (wordD n cs)), some (.d d), a, b], ds⟩ = (match wk n k r cs with
    | .ok es => .ok .nx ⟨[some (.d (wordD n es)), some (.d d), a', b'], ds⟩
    | .bad j => .er (.exc "BadMove" [.int (j : Int)]) ⟨[some (.d (wordD n cs')), some (.d d), a', b'], ds⟩
    | .great => .er (.exc "TooGreat" [.int 40]) ⟨[some (.d (wordD n cs')), some (.d d), a', b'], ds⟩)
  | [], k, cs, a, b, _, _, _ => ⟨a, b, cs, rfl⟩
  | i :: r, k, cs, a, b, hr, hl, hc => by
    have hs := atstep (num := .int (k : Int)) (hr i List.mem_cons_self) h1 h2 hl hc ds
    unfold mvR at hs
    rw [List.map_cons, enumF]
    cases e : stp n cs i with
    | none =>
      rw [e] at hs
      dsimp only at hs
      refine ⟨some (.d (.int k)), some (.d i.d), cs, ?_⟩
      rw [forL_er (s1 := ⟨[some (.d (wordD n cs)), some (.d d), some (.d (.int k)), some (.d i.d)], ds⟩) (e := .exc "BadMove" [.int (k : Int)]) (by simp [wkb, hs])]
      simp [wk, e]
    | some es =>
      rw [e] at hs
      dsimp only at hs
      by_cases hz : es.length ≤ 40
      · rw [if_pos hz] at hs
        obtain ⟨a', b', cs', e2⟩ := wk_loop (n := n) (d := d) (ds := ds) h1 h2 r (k + 1) es (some (.d (.int k))) (some (.d i.d)) (fun j hj => hr j (List.mem_cons_of_mem _ hj)) hz (stp_in e hc)
        refine ⟨a', b', cs', ?_⟩
        rw [forL_nx (s1 := ⟨[some (.d (wordD n es)), some (.d d), some (.d (.int k)), some (.d i.d)], ds⟩) (by simp [wkb, hs]), e2]
        simp [wk, e, hz]
      · rw [if_neg hz] at hs
        refine ⟨some (.d (.int k)), some (.d i.d), cs, ?_⟩
        rw [forL_er (s1 := ⟨[some (.d (wordD n cs)), some (.d d), some (.d (.int k)), some (.d i.d)], ds⟩) (e := .exc "TooGreat" [.int 40]) (by simp [wkb, hs])]
        simp [wk, e, hz]
def wkR (n : Int) (r : Wk3) (ds : Option DSt) : Out := match r with
  | .ok es => .ok (wordD n es) ds
  | .bad j => .er (.exc "BadMove" [.int (j : Int)]) ds
  | .great => .er (.exc "TooGreat" [.int 40]) ds
theorem walked_ok {n : Int} {d : D} {r : List Itm} {cs : List Int} (h1 : 2 ≤ n) (h2 : n ≤ 6) (hd : isLT d (r.map Itm.d)) (hr : ∀ i ∈ r, i.Ok) (hl : cs.length ≤ 40) (hc : ∀ c ∈ cs, 1 ≤ c ∧ c ≤ n) (ds : Option DSt) : f_walked [wordD n cs, d] ds = wkR n (wk n 0 r cs) ds := by
  have hrow := row_lt hd ds
  obtain ⟨a, b, cs', e⟩ := wk_loop (n := n) (d := d) (ds := ds) h1 h2 r 0 cs none none hr hl hc
  have front : ∀ b : M Fl, sSeq (sIf (Lw.tNot (tB (mCall f_is_row (aCons (mV 1) (aNil))))) (sRaise (mExc "BadMove" (aCons (ret .non) (aNil)))) (sNx)) b ⟨start 4 [wordD n cs, d], ds⟩ = b ⟨[some (.d (wordD n cs)), some (.d d), none, none], ds⟩ := fun b => seq_ok (by simp [hrow])
  have fo : ∀ s : S, s.σ[1]? = some (some (.d d)) → sFor (bnd (mV 1) (fun a => opt (iEn a))) (gT [gV 2, gV 3]) wkb s = forL (gT [gV 2, gV 3]) wkb (enumF 0 (r.map Itm.d)) s := fun s hs => by
    obtain ⟨σ, ds⟩ := s
    have hs : σ[1]? = some (some (.d d)) := hs
    rcases hd with rfl | rfl <;> simp [hs]
  unfold wkR
  cases ew : wk n 0 r cs with
  | ok es =>
    rw [ew] at e
    refine fn_rt (s := ⟨[some (.d (wordD n es)), some (.d d), a, b], ds⟩) rfl ?_
    unfold b_walked
    rw [front]
    refine (seq_ok (s' := ⟨[some (.d (wordD n es)), some (.d d), a, b], ds⟩) ((fo _ rfl).trans e)).trans ?_
    simp
  | bad j =>
    rw [ew] at e
    refine fn_er (s := ⟨[some (.d (wordD n cs')), some (.d d), a, b], ds⟩) rfl ?_
    unfold b_walked
    rw [front]
    exact seq_er ((fo _ rfl).trans e)
  | great =>
    rw [ew] at e
    refine fn_er (s := ⟨[some (.d (wordD n cs')), some (.d d), a, b], ds⟩) rfl ?_
    unfold b_walked
    rw [front]
    exact seq_er ((fo _ rfl).trans e)
theorem walked_no {w x : D} {ds : Option DSt} (h : f_is_row [x] ds = .ok (.bl false) ds) : f_walked [w, x] ds = .er (.exc "BadMove" [.non]) ds := by
  refine fn_er (s := ⟨[some (.d w), some (.d x), none, none], ds⟩) rfl ?_
  unfold b_walked
  refine seq_er ?_
  simp [h]
/-! ### _law_stopped -/
def spb : M Fl := sSeq (sAsg (mCall f__law_moved (aCons (mV 0) (aCons (mV 1) (aCons (mV 4) (aNil))))) (gV 1)) (sSeq (sIf (tB (m2 dIsN (.n 1) (.v (ret .non)))) (sRet (mTup (aCons (ret (.str "move")) (aCons (mV 3) (aNil))))) (sNx)) (sIf (tB (m2 dGt (.v (mBi dLen [.n 1])) (.v (ret (.int 40))))) (sRet (mTup (aCons (ret (.str "great")) (aCons (ret (.int 40)) (aNil))))) (sNx)))
def wkD (r : Wk3) : D := match r with
  | .ok _ => .non
  | .bad j => .tup [.str "move", .int (j : Int)]
  | .great => .tup [.str "great", .int 40]
theorem sp_loop {n : Int} {d : D} {ds : Option DSt} (h1 : 2 ≤ n) (h2 : n ≤ 6) : ∀ (r : List Itm) (k : Nat) (cs : List Int) (a b : Option Sl), (∀ i ∈ r, i.Ok) → cs.length ≤ 40 → ∃ s', forL (gT [gV 3, gV 4]) spb (enumF k (r.map Itm.d)) ⟨[some (.d (.int n)), some (.d (.lst (cs.map .int))), some (.d d), a, b], ds⟩ = (match wk n k r cs with
    | .ok es => .ok .nx s'
    | x => .ok (.rt (wkD x)) s') ∧ s'.ds = ds
  | [], k, cs, a, b, _, _ => ⟨_, rfl, rfl⟩
  | i :: r, k, cs, a, b, hr, hl => by
    have hs := lstep (hr i List.mem_cons_self) h1 h2 hl ds
    rw [List.map_cons, enumF]
    cases e : stp n cs i with
    | none =>
      rw [e] at hs
      simp only [ofL] at hs
      refine ⟨⟨[some (.d (.int n)), some (.d .non), some (.d d), some (.d (.int k)), some (.d i.d)], ds⟩, ?_, rfl⟩
      rw [forL_rt (s1 := ⟨[some (.d (.int n)), some (.d .non), some (.d d), some (.d (.int k)), some (.d i.d)], ds⟩) (d := .tup [.str "move", .int (k : Int)]) (by simp [spb, sSeq, hs, isNon])]
      simp [wk, e, wkD]
    | some es =>
      rw [e] at hs
      simp only [ofL] at hs
      by_cases hz : es.length ≤ 40
      · have nz : ¬ (40 : Int) < (es.length : Int) := by omega
        obtain ⟨s', e2, hd⟩ := sp_loop (n := n) (d := d) (ds := ds) h1 h2 r (k + 1) es (some (.d (.int k))) (some (.d i.d)) (fun j hj => hr j (List.mem_cons_of_mem _ hj)) hz
        refine ⟨s', ?_, hd⟩
        rw [forL_nx (s1 := ⟨[some (.d (.int n)), some (.d (.lst (es.map .int))), some (.d d), some (.d (.int k)), some (.d i.d)], ds⟩) (by simp [spb, sSeq, hs, isNon, nz]), e2]
        simp [wk, e, hz]
      · have nz : (40 : Int) < (es.length : Int) := by omega
        refine ⟨⟨[some (.d (.int n)), some (.d (.lst (es.map .int))), some (.d d), some (.d (.int k)), some (.d i.d)], ds⟩, ?_, rfl⟩
        rw [forL_rt (s1 := ⟨[some (.d (.int n)), some (.d (.lst (es.map .int))), some (.d d), some (.d (.int k)), some (.d i.d)], ds⟩) (d := .tup [.str "great", .int 40]) (by simp [spb, sSeq, hs, isNon, nz])]
        simp [wk, e, hz, wkD]
theorem stopped_ok {n : Int} {r : List Itm} {cs : List Int} (h1 : 2 ≤ n) (h2 : n ≤ 6) (hr : ∀ i ∈ r, i.Ok) (hl : cs.length ≤ 40) (ds : Option DSt) : f__law_stopped [.int n, .lst (cs.map .int), .lst (r.map Itm.d)] ds = .ok (wkD (wk n 0 r cs)) ds := by
  obtain ⟨s', e, hd⟩ := sp_loop (n := n) (d := .lst (r.map Itm.d)) (ds := ds) h1 h2 r 0 cs none none hr hl
  have fo : sFor (bnd (mV 2) (fun a => opt (iEn a))) (gT [gV 3, gV 4]) spb ⟨start 5 [.int n, .lst (cs.map .int), .lst (r.map Itm.d)], ds⟩ = forL (gT [gV 3, gV 4]) spb (enumF 0 (r.map Itm.d)) ⟨[some (.d (.int n)), some (.d (.lst (cs.map .int))), some (.d (.lst (r.map Itm.d))), none, none], ds⟩ := by simp
  have key : ∀ x, b__law_stopped ⟨start 5 [.int n, .lst (cs.map .int), .lst (r.map Itm.d)], ds⟩ = .ok (.rt x) s' → f__law_stopped [.int n, .lst (cs.map .int), .lst (r.map Itm.d)] ds = .ok x ds := fun x hx => by
    have := fn_rt (n := 5) (k := 3) (b := b__law_stopped) (xs := [.int n, .lst (cs.map .int), .lst (r.map Itm.d)]) rfl hx
    rw [hd] at this
    exact this
  cases ew : wk n 0 r cs with
  | ok es =>
    rw [ew] at e
    refine key _ ?_
    unfold b__law_stopped
    refine (seq_ok (s' := s') (fo.trans e)).trans ?_
    simp [wkD]
  | bad j =>
    rw [ew] at e
    refine key _ ?_
    unfold b__law_stopped
    exact seq_rt (fo.trans e)
  | great =>
    rw [ew] at e
    refine key _ ?_
    unfold b__law_stopped
    exact seq_rt (fo.trans e)
/-! ### the other way -/
def opp : Kd → Kd
  | .inn => .out
  | .out => .inn
  | k => k
theorem opp_opp (k : Kd) : opp (opp k) = k := by cases k <;> rfl
theorem mvd_back {n p : Int} {cs es : List Int} {k : Kd} (h0 : 2 ≤ n) (h : mvd n cs k p = some es) : mvd n es (opp k) p = some cs := by
  have fln := fl_len (n := n) (by omega)
  by_cases np : p < 0
  · simp [mvd, np] at h
  · cases k with
    | inn =>
      simp only [mvd, if_neg np] at h
      split at h
      · rename_i hp
        cases h
        have l1 : (cs.take p.toNat).length = p.toNat := by simp; omega
        simp only [mvd, opp, if_neg np]
        have e1 : (cs.take p.toNat ++ fl n ++ cs.drop p.toNat).drop p.toNat = fl n ++ cs.drop p.toNat := by
          rw [List.append_assoc, List.drop_append, l1]
          simp [List.drop_eq_nil_of_le (as := cs.take p.toNat) (i := p.toNat) (by omega)]
        have e2 : (cs.take p.toNat ++ fl n ++ cs.drop p.toNat).drop (p + n).toNat = cs.drop p.toNat := by
          rw [show (p + n).toNat = (cs.take p.toNat ++ fl n).length by rw [List.length_append, l1]; omega]
          simp [List.drop_append]
        have e3 : (cs.take p.toNat ++ fl n ++ cs.drop p.toNat).take p.toNat = cs.take p.toNat := by
          rw [List.append_assoc, List.take_append, l1]
          simp [List.take_take]
        rw [e1, e2, e3, if_pos (by rw [List.take_append, List.take_of_length_le (by omega), show n.toNat - (fl n).length = 0 by omega]; simp), List.take_append_drop]
      · cases h
    | out =>
      simp only [mvd, if_neg np] at h
      split at h
      · rename_i hf
        cases h
        have hn : (fl n).length = n.toNat := by omega
        have hlen : p.toNat + n.toNat ≤ cs.length := by
          have := congrArg List.length hf
          rw [List.length_take, List.length_drop] at this
          omega
        have l1 : (cs.take p.toNat).length = p.toNat := by simp; omega
        simp only [mvd, opp, if_neg np]
        have e1 : (cs.take p.toNat ++ cs.drop (p + n).toNat).take p.toNat = cs.take p.toNat := by
          rw [List.take_append, l1]
          simp [List.take_take]
        have e2 : (cs.take p.toNat ++ cs.drop (p + n).toNat).drop p.toNat = cs.drop (p + n).toNat := by
          rw [List.drop_append, l1]
          simp [List.drop_eq_nil_of_le (as := cs.take p.toNat) (i := p.toNat) (by omega)]
        rw [e1, e2, if_pos (by rw [List.length_append, l1]; omega)]
        congr 1
        rw [← hf]
        have e4 : cs.drop (p + n).toNat = (cs.drop p.toNat).drop n.toNat := by
          rw [List.drop_drop]
          congr 1
          omega
        rw [e4, List.append_assoc, List.take_append_drop, List.take_append_drop]
      · cases h
    | fst =>
      simp only [mvd, if_neg np] at h
      split at h
      · rename_i a b c r hd
        split at h
        · rename_i hq
          cases h
          have hA : (cs.take p.toNat).length = p.toNat := by
            have := congrArg List.length hd
            simp at this
            simp
            omega
          have hcs : cs = cs.take p.toNat ++ a :: b :: c :: r := by rw [← hd, List.take_append_drop]
          have e1 : (cs.take p.toNat ++ b :: a :: c :: r).drop p.toNat = b :: a :: c :: r := by
            rw [List.drop_append, hA]
            simp [List.drop_eq_nil_of_le (as := cs.take p.toNat) (i := p.toNat) (by omega)]
          have e2 : (cs.take p.toNat ++ b :: a :: c :: r).take p.toNat = cs.take p.toNat := by
            rw [List.take_append, hA]
            simp [List.take_take]
          simp only [mvd, opp, if_neg np, e1, e2]
          rw [if_pos (by omega), ← hcs]
        · cases h
      · cases h
    | lst =>
      simp only [mvd, if_neg np] at h
      split at h
      · rename_i a b c r hd
        split at h
        · rename_i hq
          cases h
          have hA : (cs.take p.toNat).length = p.toNat := by
            have := congrArg List.length hd
            simp at this
            simp
            omega
          have hcs : cs = cs.take p.toNat ++ a :: b :: c :: r := by rw [← hd, List.take_append_drop]
          have e1 : (cs.take p.toNat ++ a :: c :: b :: r).drop p.toNat = a :: c :: b :: r := by
            rw [List.drop_append, hA]
            simp [List.drop_eq_nil_of_le (as := cs.take p.toNat) (i := p.toNat) (by omega)]
          have e2 : (cs.take p.toNat ++ a :: c :: b :: r).take p.toNat = cs.take p.toNat := by
            rw [List.take_append, hA]
            simp [List.take_take]
          simp only [mvd, opp, if_neg np, e1, e2]
          rw [if_pos (by omega), ← hcs]
        · cases h
      · cases h
/-- good rows -/
def gw2 (n : Int) : List (Kd × Int) → List Int → Option (List Int)
  | [], cs => some cs
  | q :: r, cs => match mvd n cs q.1 q.2 with
    | none => none
    | some es => if es.length ≤ 40 then gw2 n r es else none
theorem gw_wk {n : Int} : ∀ (r : List (Kd × Int)) (k : Nat) (cs es : List Int), gw2 n r cs = some es → wk n k (r.map .mv) cs = .ok es
  | [], k, cs, es, h => by
    cases h
    rfl
  | q :: r, k, cs, es, h => by
    unfold gw2 at h
    rw [List.map_cons]
    unfold wk
    show (match mvd n cs q.1 q.2 with | none => _ | some es => _) = _
    cases e : mvd n cs q.1 q.2 with
    | none =>
      rw [e] at h
      cases h
    | some fs =>
      rw [e] at h
      dsimp only at h ⊢
      split at h
      · rename_i hz
        rw [if_pos hz]
        exact gw_wk r (k + 1) fs es h
      · cases h
theorem gw_snoc {n : Int} {q : Kd × Int} : ∀ (r : List (Kd × Int)) (cs es fs : List Int), gw2 n r cs = some es → mvd n es q.1 q.2 = some fs → fs.length ≤ 40 → gw2 n (r ++ [q]) cs = some fs
  | [], cs, es, fs, h, h1, h2 => by
    cases h
    simp [gw2, h1, h2]
  | p :: r, cs, es, fs, h, h1, h2 => by
    rw [List.cons_append]
    unfold gw2 at h ⊢
    cases e : mvd n cs p.1 p.2 with
    | none =>
      rw [e] at h
      cases h
    | some gs =>
      rw [e] at h
      dsimp only at h ⊢
      split at h
      · rename_i hz
        rw [if_pos hz]
        exact gw_snoc r gs es fs h h1 h2
      · cases h
def bck (r : List (Kd × Int)) : List (Kd × Int) := r.reverse.map fun q => (opp q.1, q.2)
theorem bck_bck (r : List (Kd × Int)) : bck (bck r) = r := by
  unfold bck
  rw [← List.map_reverse, List.reverse_reverse, List.map_map]
  refine (List.map_congr_left fun q _ => ?_).trans (List.map_id r)
  show (opp (opp q.1), q.2) = q
  rw [opp_opp]
theorem gw_back {n : Int} (h0 : 2 ≤ n) : ∀ (r : List (Kd × Int)) (cs es : List Int), cs.length ≤ 40 → gw2 n r cs = some es → gw2 n (bck r) es = some cs
  | [], cs, es, hl, h => by
    cases h
    rfl
  | q :: r, cs, es, hl, h => by
    unfold gw2 at h
    cases e : mvd n cs q.1 q.2 with
    | none =>
      rw [e] at h
      cases h
    | some fs =>
      rw [e] at h
      dsimp only at h
      split at h
      · rename_i hz
        have ih := gw_back h0 r fs es hz h
        have e2 : bck (q :: r) = bck r ++ [(opp q.1, q.2)] := by simp [bck]
        rw [e2]
        exact gw_snoc (bck r) es fs cs ih (mvd_back h0 e) hl
      · cases h
theorem gw_in {n : Int} : ∀ (r : List (Kd × Int)) (cs es : List Int), gw2 n r cs = some es → cs.length ≤ 40 → (∀ c ∈ cs, 1 ≤ c ∧ c ≤ n) → es.length ≤ 40 ∧ ∀ c ∈ es, 1 ≤ c ∧ c ≤ n
  | [], cs, es, h, hl, hc => by
    cases h
    exact ⟨hl, hc⟩
  | q :: r, cs, es, h, hl, hc => by
    unfold gw2 at h
    cases e : mvd n cs q.1 q.2 with
    | none =>
      rw [e] at h
      cases h
    | some fs =>
      rw [e] at h
      dsimp only at h
      split at h
      · rename_i hz
        exact gw_in r fs es h hz (mvd_in e hc)
      · cases h
end Lw

set_option Elab.async false
set_option linter.all false
set_option maxRecDepth 100000
set_option maxHeartbeats 4000000
/-! k17: the law (printed by r17.py). -/
namespace Lw
open PySem
theorem heard_move (x : D) (ds : Option DSt) : outR (hrest (hst (.exc "BadMove" [x]) ds)) = some (.tup [.str "move", x], ds) := by kernel_rfl
theorem heard_great (x : D) (ds : Option DSt) : outR (hrest (hst (.exc "TooGreat" [x]) ds)) = some (.tup [.str "great", x], ds) := by kernel_rfl
theorem heard_ok {m : M D} {σ σ' : List (Option Sl)} {ds ds' : Option DSt} {d : D} (h : m ⟨dropO σ, ds⟩ = .ok d ⟨σ', ds'⟩) : mHear 9 h__law_heard m ⟨σ, ds⟩ = .ok (.lst [d]) ⟨σ, ds'⟩ := by
  simp [mHear, h__law_heard, sSeq, sTry, act, h, isNon]
def prs (ks : List Kd) (L : Nat) : List (Kd × Int) := ks.flatMap fun k => (upw 0 L).map fun p => (k, p)
def mvP (q : Kd × Int) : D := mvD q.1 q.2
theorem prs_mem {ks : List Kd} {L : Nat} {q : Kd × Int} (h : q ∈ prs ks L) : 0 ≤ q.2 ∧ q.2 < L := by
  unfold prs at h
  obtain ⟨k, _, h⟩ := List.mem_flatMap.mp h
  obtain ⟨p, hp, rfl⟩ := List.mem_map.mp h
  have := upw_mem hp
  exact ⟨by omega, by omega⟩
theorem prs_len (ks : List Kd) (L : Nat) : (prs ks L).length = ks.length * L := by
  unfold prs
  induction ks with
  | nil => simp
  | cons k ks ih =>
    rw [List.flatMap_cons, List.length_append, ih]
    simp [upw_len, Nat.succ_mul]
    omega
theorem lc_row {k : Kd} {L : Nat} {g : Tg} {e : M D} {vs : List Nat} {s : S} (h : ∀ p : Int, lc1 g tTrue e vs (.int p) s = .ok [mvD k p] s) : lcL g tTrue e vs (rg 0 (L : Int)) s = .ok (((upw 0 L).map fun p => (k, p)).map mvP) s := by
  rw [rg_upw]
  rw [lcL_map (f := fun d => match d with | .int p => mvD k p | _ => .non) ((upw 0 L).map .int) fun x hx => by
    obtain ⟨i, hi, rfl⟩ := List.mem_map.mp hx
    exact h i, List.map_map, List.map_map]
  rfl
theorem lcL_filterP {g : Tg} {t : M Bool} {e : M D} {vs : List Nat} {q : Kd × Int → Bool} {s : S} : ∀ (r : List (Kd × Int)), (∀ i ∈ r, lc1 g t e vs (mvP i) s = .ok (if q i then [mvP i] else []) s) → lcL g t e vs (r.map mvP) s = .ok ((r.filter q).map mvP) s
  | [], _ => rfl
  | c :: r, h => by
    have ih := lcL_filterP r fun i hi => h i (List.mem_cons_of_mem _ hi)
    have h1 := h c List.mem_cons_self
    rw [List.map_cons]
    show bnd (lc1 _ _ _ _ _) (fun y => bnd (lcL _ _ _ _ _) fun ys => ret (y ++ ys)) _ = _
    rw [bnd_ok h1, bnd_ok ih]
    by_cases hq : q c <;> simp [hq, ret]
def k3 : List Kd := [.fst, .lst, .out]
def goodM (n : Int) (cs : List Int) : List (Kd × Int) := (prs k3 cs.length).filter fun q => (mvd n cs q.1 q.2).isSome
theorem shw_mv {q : Kd × Int} (h : 0 ≤ q.2 ∧ q.2 < 1000) : Shw 1 900 (mvP q) := Shw.tup (v := 300) (fun y hy => by
  simp only [List.mem_cons, List.not_mem_nil, or_false] at hy
  rcases hy with rfl | rfl
  · cases q.1 <;> exact Shw.str (by decide +kernel) (by decide +kernel)
  · exact Shw.i64 (by omega) (by omega) (by decide)) (by show 2 * 302 + 3 ≤ 900; decide)

theorem prs_snoc (ks : List Kd) (k : Kd) (L : Nat) : prs (ks ++ [k]) L = prs ks L ++ (upw 0 L).map fun p => (k, p) := by simp [prs]
theorem ly_mv (q : Kd × Int) : Ly 1 (mvP q) := Ly.tup fun x hx => by
  simp only [List.mem_cons, List.not_mem_nil, or_false] at hx
  rcases hx with rfl | rfl
  · cases q.1 <;> exact Ly.str 0 (by decide +kernel)
  · exact Ly.int 0 _
theorem ly_mvs (r : List (Kd × Int)) : ∀ x ∈ r.map mvP, Ly 1 x := fun x hx => by
  obtain ⟨q, _, rfl⟩ := List.mem_map.mp hx
  exact ly_mv q
theorem eq_nilP (r : List (Kd × Int)) : dEq (.lst (r.map mvP)) (.lst []) = some (.bl r.isEmpty) := by
  rw [ly_eq (Ly.lst (ly_mvs r)) (Ly.lst (k := 1) fun _ h => absurd h List.not_mem_nil) (by decide) (by decide)]
  cases r <;> simp [toP, toPs, PyData.eqv, PyData.eqvAll]
theorem ne_nilP (r : List (Kd × Int)) : dNe (.lst (r.map mvP)) (.lst []) = some (.bl (!r.isEmpty)) := by
  rw [ly_ne (Ly.lst (ly_mvs r)) (Ly.lst (k := 1) fun _ h => absurd h List.not_mem_nil) (by decide) (by decide)]
  cases r <;> simp [toP, toPs, PyData.eqv, PyData.eqvAll]
/-! ### returned -/
theorem get_opp (k : Kd) : dGetX (.dct [(.str "in", .str "out"), (.str "out", .str "in")]) (.str (kn k)) (.str (kn k)) = some (.str (kn (opp k))) := by cases k <;> rfl
theorem get_opp4 (k : Kd) : dGetI (.dct [(.str "in", .str "out"), (.str "out", .str "in"), (.str "first", .str "first"), (.str "last", .str "last")]) (.str (kn k)) = some (.str (kn (opp k))) := by cases k <;> rfl
@[simp] theorem q_mGetX (o k z : M D) (s : S) : mGetX o k z s = bnd o (fun a => (match a with
  | .dct _ => bnd k fun y => bnd z fun x => opt (dGetX a y x)
  | _ => stuck)) s := rfl
@[simp] theorem q_mGetI (o k : M D) (s : S) : mGetI o k s = bnd o (fun a => bnd k fun z => opt (dGetI a z)) s := rfl
def op1 (q : Kd × Int) : Kd × Int := (opp q.1, q.2)
theorem bck_map (r : List (Kd × Int)) : bck r = r.reverse.map op1 := rfl
theorem lcL_mapP {g : Tg} {e : M D} {vs : List Nat} {f : Kd × Int → Kd × Int} {s : S} (r : List (Kd × Int)) (h : ∀ q ∈ r, lc1 g tTrue e vs (mvP q) s = .ok [mvP (f q)] s) : lcL g tTrue e vs (r.map mvP) s = .ok ((r.map f).map mvP) s := by
  induction r with
  | nil => rfl
  | cons q r ih =>
    rw [List.map_cons]
    show bnd (lc1 _ _ _ _ _) (fun y => bnd (lcL _ _ _ _ _) fun ys => ret (y ++ ys)) _ = _
    rw [bnd_ok (h q List.mem_cons_self), bnd_ok (ih fun i hi => h i (List.mem_cons_of_mem _ hi))]
    rfl
theorem returned_ok {d : D} {r : List (Kd × Int)} (hd : isLT d (r.map mvP)) (hl : r.length ≤ 1000) (ds : Option DSt) : f_returned [d] ds = .ok (.tup ((bck r).map mvP)) ds := by
  have lc := lcL_mapP (g := gT [gV 2, gV 3]) (e := mTup (aCons (mGetX (mV 1) (mV 2) (mV 2)) (aCons (mV 3) (aNil)))) (vs := [2, 3]) (f := op1) (s := ⟨[some (.d d), some (.d (.dct [(.str "in", .str "out"), (.str "out", .str "in")])), none, none], ds⟩) r.reverse fun q _ => by
    simp [mvP, mvD, op1, wipeS, get_opp]
  rw [← bck_map] at lc
  have hz : (r.map mvP).length ≤ line := by
    have : (1000 : Nat) ≤ line := by decide
    rw [List.length_map]
    omega
  refine fn_rt (s := ⟨[some (.d d), some (.d (.dct [(.str "in", .str "out"), (.str "out", .str "in")])), none, none], ds⟩) rfl ?_
  unfold b_returned
  rw [seq_ok (s' := ⟨[some (.d d), some (.d (.dct [(.str "in", .str "out"), (.str "out", .str "in")])), none, none], ds⟩) (by simp)]
  have rv : iRevD (.lst (r.map mvP)) = some (r.reverse.map mvP) := by simp [iRevD]
  have lnD : lenD (.lst (r.map mvP)) ≤ line := hz
  rcases hd with rfl | rfl <;> simp [-q_lc1, -List.map_reverse, lnD, rv, noOwn, wipeS, unwipe, lc]
/-! ### _law_moves -/
def mb : M Fl := sSeq (sAsg (mLst (aNil)) (gV 6)) (sSeq (sFor (bnd (mTup (aCons (ret (.str "first")) (aCons (ret (.str "last")) (aCons (ret (.str "out")) (aNil))))) (fun a => opt (items a))) (gV 7) (sAsg (m2 dAdd (.n 6) (.v (mF (mLc (mRg1 (mBi dLen [.n 2])) (gV 9) (tTrue) (mTup (aCons (mV 7) (aCons (mV 9) (aNil)))) [9])))) (gV 6))) (sSeq (sAsg (mF (mLc (bnd (mV 6) (fun a => opt (items a))) (gV 8) (tB (m2 dNtN (.v (mCall f__law_moved (aCons (mV 1) (aCons (mV 2) (aCons (mV 8) (aNil)))))) (.v (ret .non)))) (mV 8) [8])) (gV 6)) (sSeq (sIf (Lw.tOr (Lw.tAnd (tB (m2 dLe (.v (m2 dAdd (.v (mBi dLen [.n 2])) (.n 1))) (.v (ret (.int 40))))) (tB (m2 dEq (.v (mCall f__law_draw (aCons (mV 0) (aCons (ret (.int 4)) (aNil))))) (.v (ret (.int 0)))))) (tB (m2 dEq (.n 6) (.v (mLst (aNil)))))) (sAsg (mIf (tB (m2 dLe (.v (m2 dAdd (.v (mBi dLen [.n 2])) (.n 1))) (.v (ret (.int 40))))) (mLst (aCons (mTup (aCons (ret (.str "in")) (aCons (mCall f__law_draw (aCons (mV 0) (aCons (m2 dAdd (.v (mBi dLen [.n 2])) (.v (ret (.int 1)))) (aNil)))) (aNil)))) (aNil))) (mV 6)) (gV 6)) (sNx)) (sIf (tB (m2 dNe (.n 6) (.v (mLst (aNil))))) (sSeq (sApp 4 (m2 dIx (.n 6) (.v (mCall f__law_draw (aCons (mV 0) (aCons (mBi dLen [.n 6]) (aNil))))))) (sAsg (mCall f__law_moved (aCons (mV 1) (aCons (mV 2) (aCons (m2 dIx (.n 4) (.v (m1 dNg (.v (ret (.int 1)))))) (aNil))))) (gV 2))) (sNx)))))
def nb : M Fl := sAsg (m2 dAdd (.n 6) (.v (mF (mLc (mRg1 (mBi dLen [.n 2])) (gV 9) (tTrue) (mTup (aCons (mV 7) (aCons (mV 9) (aNil)))) [9])))) (gV 6)
def N10 (n : Int) (cs : List Int) (many : Int) (row : List (Kd × Int)) (a5 a6 a7 : Option Sl) (st : DSt) : S := ⟨[some (.d .dm), some (.d (.int n)), some (.d (.lst (cs.map .int))), some (.d (.int many)), some (.l (row.map mvP)), a5, a6, a7, none, none], some st⟩
section
variable {n : Int} {cs : List Int} {many : Int} {row : List (Kd × Int)} {a5 a6 a7 : Option Sl} {st : DSt}
theorem nb_loop (hl : cs.length ≤ 40) : ∀ (ks dn : List Kd) (a7 : Option Sl), (dn ++ ks).length ≤ 10 → ∃ b7, forL (gV 7) nb (ks.map fun k => .str (kn k)) (N10 n cs many row a5 (some (.d (.lst ((prs dn cs.length).map mvP)))) a7 st) = .ok .nx (N10 n cs many row a5 (some (.d (.lst ((prs (dn ++ ks) cs.length).map mvP)))) b7 st)
  | [], dn, a7, _ => ⟨a7, by rw [List.append_nil]; rfl⟩
  | k :: ks, dn, a7, h => by
    obtain ⟨b7, e⟩ := nb_loop hl ks (dn ++ [k]) (some (.d (.str (kn k)))) (by simpa using h)
    refine ⟨b7, ?_⟩
    have hr := rg1_ok (v := (cs.length : Int)) (by omega) (by omega)
    have lr := lc_row (k := k) (L := cs.length) (g := gV 9) (e := mTup (aCons (mV 7) (aCons (mV 9) (aNil)))) (vs := [9]) (s := N10 n cs many row a5 (some (.d (.lst ((prs dn cs.length).map mvP)))) (some (.d (.str (kn k)))) st) fun p => by simp [N10, wipeS, mvD]
    have big : (1000 : Nat) ≤ line := by decide
    have hz : (prs dn cs.length).length + (upw 0 (cs.length : Int)).length ≤ line := by
      rw [prs_len, upw_len]
      simp at h
      have : dn.length * cs.length ≤ 10 * 40 := Nat.mul_le_mul (by omega) hl
      omega
    rw [List.map_cons, forL_nx (s1 := N10 n cs many row a5 (some (.d (.lst ((prs (dn ++ [k]) cs.length).map mvP)))) (some (.d (.str (kn k)))) st) (by
      rw [bnd_ok (s' := N10 n cs many row a5 (some (.d (.lst ((prs dn cs.length).map mvP)))) (some (.d (.str (kn k)))) st) (a := ()) (by simp [N10])]
      rw [prs_snoc, List.map_append]
      simp only [N10] at lr ⊢
      simp [-q_lc1, -List.map_map, nb, hr, noOwn, wipeS, unwipe, lr, hz])]
    rw [show dn ++ k :: ks = dn ++ [k] ++ ks by simp]
    exact e
end
theorem mvd_inn {n p : Int} {cs : List Int} (h0 : 0 ≤ p) (hp : p ≤ cs.length) : mvd n cs .inn p = some (cs.take p.toNat ++ fl n ++ cs.drop p.toNat) := by
  simp only [mvd, if_neg (show ¬ p < 0 by omega)]
  rw [if_pos hp]
theorem mvd_short {n p : Int} {cs es : List Int} {k : Kd} (h0 : 0 ≤ n) (hk : k ≠ .inn) (h : mvd n cs k p = some es) (hl : cs.length ≤ 40) : es.length ≤ 40 := by
  rcases Nat.lt_or_ge 40 es.length with hz | hz
  · exact absurd (mvd_long h0 h hl hz).1 hk
  · exact hz
theorem good_mem {n : Int} {cs : List Int} {q : Kd × Int} (h0 : 0 ≤ n) (hl : cs.length ≤ 40) (h : q ∈ goodM n cs) : ∃ es, mvd n cs q.1 q.2 = some es ∧ es.length ≤ 40 := by
  obtain ⟨h1, h2⟩ := List.mem_filter.mp h
  obtain ⟨es, e⟩ := Option.isSome_iff_exists.mp h2
  refine ⟨es, e, mvd_short h0 (fun z => ?_) e hl⟩
  unfold prs at h1
  obtain ⟨k, hk, h1⟩ := List.mem_flatMap.mp h1
  obtain ⟨p, _, rfl⟩ := List.mem_map.mp h1
  dsimp only at z
  subst z
  simp [k3] at hk
def c4 : M Fl := sIf (Lw.tOr (Lw.tAnd (tB (m2 dLe (.v (m2 dAdd (.v (mBi dLen [.n 2])) (.n 1))) (.v (ret (.int 40))))) (tB (m2 dEq (.v (mCall f__law_draw (aCons (mV 0) (aCons (ret (.int 4)) (aNil))))) (.v (ret (.int 0)))))) (tB (m2 dEq (.n 6) (.v (mLst (aNil)))))) (sAsg (mIf (tB (m2 dLe (.v (m2 dAdd (.v (mBi dLen [.n 2])) (.n 1))) (.v (ret (.int 40))))) (mLst (aCons (mTup (aCons (ret (.str "in")) (aCons (mCall f__law_draw (aCons (mV 0) (aCons (m2 dAdd (.v (mBi dLen [.n 2])) (.v (ret (.int 1)))) (aNil)))) (aNil)))) (aNil))) (mV 6)) (gV 6)) (sNx)
def c5 : M Fl := sIf (tB (m2 dNe (.n 6) (.v (mLst (aNil))))) (sSeq (sApp 4 (m2 dIx (.n 6) (.v (mCall f__law_draw (aCons (mV 0) (aCons (mBi dLen [.n 6]) (aNil))))))) (sAsg (mCall f__law_moved (aCons (mV 1) (aCons (mV 2) (aCons (m2 dIx (.n 4) (.v (m1 dNg (.v (ret (.int 1)))))) (aNil))))) (gV 2))) (sNx)
theorem choice {n : Int} {cs : List Int} {many : Int} {row : List (Kd × Int)} {a5 b7 : Option Sl} {st : DSt} (h1 : 2 ≤ n) (h2 : n ≤ 6) (hl : cs.length ≤ 40) (hs : st.spot ≤ 90000) : ∃ (C : List (Kd × Int)) (st2 : DSt), c4 (N10 n cs many row a5 (some (.d (.lst ((goodM n cs).map mvP)))) b7 st) = .ok .nx (N10 n cs many row a5 (some (.d (.lst (C.map mvP)))) b7 st2) ∧ (∀ q ∈ C, ∃ es, mvd n cs q.1 q.2 = some es ∧ es.length ≤ 40) ∧ C.length ≤ 1000 ∧ st2.spot ≤ st.spot + 2 := by
  have en := eq_nilP (goodM n cs)
  have gl : (goodM n cs).length ≤ 1000 := by
    have : (goodM n cs).length ≤ (prs k3 cs.length).length := List.length_filter_le _ _
    rw [prs_len] at this
    simp [k3] at this
    omega
  have gm : ∀ q ∈ goodM n cs, ∃ es, mvd n cs q.1 q.2 = some es ∧ es.length ≤ 40 := fun q hq => good_mem (by omega) hl hq
  have fln := fl_len (n := n) (by omega)
  have inn : ∀ p : Int, 0 ≤ p → p ≤ cs.length → (cs.length : Int) + n ≤ 40 → ∀ q ∈ [((.inn, p) : Kd × Int)], ∃ es, mvd n cs q.1 q.2 = some es ∧ es.length ≤ 40 := fun p p0 p1 hA q hq => by
    simp at hq
    subst hq
    refine ⟨_, mvd_inn p0 p1, ?_⟩
    simp
    omega
  by_cases hA : (cs.length : Int) + n ≤ 40
  · obtain ⟨v, st1, e1, a1, b1, s1⟩ := draw_ok (lim := 4) (st := st) (by decide) (by decide) (by omega)
    obtain ⟨w, st2, e2, a2, b2, s2⟩ := draw_ok (lim := (cs.length : Int) + 1) (st := st1) (by omega) (by omega) (by omega)
    by_cases hv : v = 0
    · subst hv
      exact ⟨[(.inn, w)], st2, by simp [c4, N10, hA, e1, e2, mvP, mvD, kn], inn w a2 (by omega) hA, by simp, by omega⟩
    · cases hE : (goodM n cs).isEmpty with
      | true =>
        rw [hE] at en
        exact ⟨[(.inn, w)], st2, by simp [c4, N10, hA, e1, e2, hv, en, mvP, mvD, kn], inn w a2 (by omega) hA, by simp, by omega⟩
      | false =>
        rw [hE] at en
        exact ⟨goodM n cs, st1, by simp [c4, N10, hA, e1, hv, en], gm, gl, by omega⟩
  · cases hE : (goodM n cs).isEmpty with
    | true =>
      rw [hE] at en
      exact ⟨goodM n cs, st, by simp [c4, N10, hA, en], gm, gl, by omega⟩
    | false =>
      rw [hE] at en
      exact ⟨goodM n cs, st, by simp [c4, N10, hA, en], gm, gl, by omega⟩
def MvP (n : Int) (cs0 : List Int) (many : Int) (s0 k : Nat) (s : S) : Prop := ∃ (row : List (Kd × Int)) (cs : List Int) (a5 a6 a7 : Option Sl) (st : DSt), s = N10 n cs many row a5 a6 a7 st ∧ gw2 n row cs0 = some cs ∧ row.length ≤ k ∧ st.spot ≤ s0 + 3 * k
theorem mb_step {n : Int} {cs0 : List Int} {many : Int} {s0 k : Nat} {x : D} {s : S} (h1 : 2 ≤ n) (h2 : n ≤ 6) (hl0 : cs0.length ≤ 40) (hc0 : ∀ c ∈ cs0, 1 ≤ c ∧ c ≤ n) (hs0 : s0 ≤ 50000) (hk : k < 100) (h : MvP n cs0 many s0 k s) : ∃ s', bnd (cl (gV 5 x)) (fun _ => mb) s = .ok .nx s' ∧ MvP n cs0 many s0 (k + 1) s' := by
  obtain ⟨row, cs, a5, a6, a7, st, rfl, hg, hr, hs⟩ := h
  obtain ⟨hl, hc⟩ := gw_in row cs0 cs hg hl0 hc0
  obtain ⟨b7, f1⟩ := nb_loop (n := n) (cs := cs) (many := many) (row := row) (a5 := some (.d x)) (st := st) hl k3 [] a7 (by decide)
  have lf := lcL_filterP (g := gV 8) (t := tB (m2 dNtN (.v (mCall f__law_moved (aCons (mV 1) (aCons (mV 2) (aCons (mV 8) (aNil)))))) (.v (ret .non)))) (e := mV 8) (vs := [8]) (q := fun q => (mvd n cs q.1 q.2).isSome) (s := N10 n cs many row (some (.d x)) (some (.d (.lst ((prs k3 cs.length).map mvP)))) b7 st) (prs k3 cs.length) fun i hi => by
    have c := lmoved_ok (cs := cs) (k := i.1) (p := i.2) h1 h2 hl (some st)
    have em : mvP i = mvD i.1 i.2 := rfl
    cases hq : mvd n cs i.1 i.2 with
    | none =>
      rw [hq] at c
      simp [N10, wipeS, em, c, hq, ofL, isNon]
    | some es =>
      rw [hq] at c
      simp [N10, wipeS, em, c, hq, ofL, isNon]
  have eg : (prs k3 cs.length).filter (fun q => (mvd n cs q.1 q.2).isSome) = goodM n cs := rfl
  rw [eg] at lf
  obtain ⟨C, st2, f4, hC, lC, s4⟩ := choice (n := n) (cs := cs) (many := many) (row := row) (a5 := some (.d x)) (b7 := b7) (st := st) h1 h2 hl (by omega)
  have nn := ne_nilP C
  have hrow : row.length < 16777216 := by omega
  have fin : ∃ s', c5 (N10 n cs many row (some (.d x)) (some (.d (.lst (C.map mvP)))) b7 st2) = .ok .nx s' ∧ MvP n cs0 many s0 (k + 1) s' := by
    cases hE : C.isEmpty with
    | true =>
      rw [hE] at nn
      exact ⟨N10 n cs many row (some (.d x)) (some (.d (.lst (C.map mvP)))) b7 st2, by simp [c5, N10, nn], row, cs, _, _, _, st2, rfl, hg, by omega, by omega⟩
    | false =>
      rw [hE] at nn
      have cl : 0 < C.length := by
        cases C with
        | nil => cases hE
        | cons _ _ => simp
      obtain ⟨v, st3, e3, a3, b3, s3⟩ := draw_ok (lim := (C.length : Int)) (st := st2) (by omega) (by omega) (by omega)
      obtain ⟨q, eq, hq⟩ := get_lt (xs := C) (i := v.toNat) (by omega)
      obtain ⟨es, em, hes⟩ := hC q hq
      have lm := lmoved_ok (cs := cs) (k := q.1) (p := q.2) h1 h2 hl (some st3)
      rw [em] at lm
      have at1 : L2.atI (C.map mvP) v = some (mvP q) := at_nat a3 (by rw [List.length_map]; exact b3) (by rw [List.getElem?_map, eq]; rfl)
      have at2 : L2.atI (row.map mvP ++ [mvP q]) (-1) = some (mvP q) := at_last _ _
      have emq : mvP q = mvD q.1 q.2 := rfl
      refine ⟨N10 n es many (row ++ [q]) (some (.d x)) (some (.d (.lst (C.map mvP)))) b7 st3, ?_, row ++ [q], es, _, _, _, st3, rfl, gw_snoc row cs0 cs es hg em hes, by simp; omega, by omega⟩
      simp only [ofL, ← emq] at lm
      simp [c5, sSeq, N10, nn, e3, at1, hrow, at2, lm]
  obtain ⟨s', f5, hM⟩ := fin
  refine ⟨s', ?_, hM⟩
  rw [bnd_ok (s' := N10 n cs many row (some (.d x)) a6 a7 st) (a := ()) (by simp [N10])]
  unfold mb
  rw [seq_ok (s' := N10 n cs many row (some (.d x)) (some (.d (.lst ((prs [] cs.length).map mvP)))) a7 st) (by simp [N10, prs])]
  refine (seq_ok (s' := N10 n cs many row (some (.d x)) (some (.d (.lst ((prs k3 cs.length).map mvP)))) b7 st) ((show sFor _ _ _ _ = forL (gV 7) nb (k3.map fun k => .str (kn k)) _ by simp [N10, k3]; rfl).trans f1)).trans ?_
  rw [seq_ok (s' := N10 n cs many row (some (.d x)) (some (.d (.lst ((goodM n cs).map mvP)))) b7 st) (by
    simp only [N10] at lf ⊢
    simp [-q_lc1, noOwn, wipeS, unwipe, lf])]
  exact (seq_ok f4).trans f5
theorem gw_rng {n : Int} : ∀ (r : List (Kd × Int)) (cs es : List Int), 2 ≤ n → gw2 n r cs = some es → cs.length ≤ 40 → ∀ q ∈ r, 0 ≤ q.2 ∧ q.2 < 1000
  | [], cs, es, _, _, _ => fun q hq => absurd hq List.not_mem_nil
  | p :: r, cs, es, h1, h, hl => by
    unfold gw2 at h
    cases e : mvd n cs p.1 p.2 with
    | none =>
      rw [e] at h
      cases h
    | some fs =>
      rw [e] at h
      dsimp only at h
      split at h
      · rename_i hz
        intro q hq
        rcases List.mem_cons.mp hq with rfl | hq
        · refine ⟨?_, ?_⟩
          · by_cases np : q.2 < 0
            · simp [mvd, np] at e
            · omega
          · by_cases hf : (cs.length : Int) < q.2
            · rw [mvd_far h1 hf] at e
              cases e
            · omega
        · exact gw_rng r fs es h1 h hz q hq
      · cases h
theorem lmoves_ok {n many : Int} {cs : List Int} {st : DSt} (h1 : 2 ≤ n) (h2 : n ≤ 6) (hl : cs.length ≤ 40) (hc : ∀ c ∈ cs, 1 ≤ c ∧ c ≤ n) (m0 : 0 ≤ many) (m1 : many ≤ 50) (hs : st.spot ≤ 50000) : ∃ (row : List (Kd × Int)) (es : List Int) (st' : DSt), f__law_moves [.dm, .int n, .lst (cs.map .int), .int many] (some st) = .ok (.lst [.lst (row.map mvP), .lst (es.map .int)]) (some st') ∧ gw2 n row cs = some es ∧ row.length ≤ many.toNat ∧ st'.spot ≤ st.spot + 3 * many.toNat := by
  obtain ⟨s', e, row, es, a5, a6, a7, st', rfl, hg, hr, hsp⟩ := forL_cnt (g := gV 5) (b := mb) (P := MvP n cs many st.spot) (rg 0 many) 0 (N10 n cs many [] none none none st) ⟨[], cs, none, none, none, st, rfl, rfl, Nat.le_refl _, by simp⟩ fun x _ j s _ h4 h => mb_step h1 h2 hl hc hs (by rw [rg_len] at h4; omega) h
  rw [rg_len, Nat.zero_add] at hr hsp
  refine ⟨row, es, st', ?_, hg, by omega, by omega⟩
  refine fn_rt (s := ⟨[some (.d .dm), some (.d (.int n)), some (.d (.lst (es.map .int))), some (.d (.int many)), some (.d (.lst (row.map mvP))), a5, a6, a7, none, none], some st'⟩) rfl ?_
  unfold b__law_moves
  rw [seq_ok (s' := N10 n cs many [] none none none st) (by simp [N10])]
  have hrg := rg1_ok m0 (by omega : many ≤ 100000)
  refine (seq_ok (s' := N10 n es many row a5 a6 a7 st') ((show sFor _ _ _ _ = forL (gV 5) mb (rg 0 many) _ by simp [N10, hrg]; rfl).trans e)).trans ?_
  simp [N10]


theorem wkD_ne (r : Wk3) : dNeX (wkD r) (wkD r) = some (.bl false) := by
  cases r with
  | ok _ => kernel_rfl
  | bad j => exact ne_self (k := 1) (Ly.tup fun x hx => by
      simp only [List.mem_cons, List.not_mem_nil, or_false] at hx
      rcases hx with rfl | rfl
      · exact Ly.str 0 (by decide +kernel)
      · exact Ly.int 0 _) (by decide)
  | great => kernel_rfl
def tdD (n : Int) (r : Wk3) : D := match r with
  | .ok es => .lst [wordD n es]
  | x => wkD x
theorem heard_wk {n : Int} {r : Wk3} {m : M D} {σ : List (Option Sl)} {ds : Option DSt} (h : m ⟨dropO σ, ds⟩ = (match wkR n r ds with
    | .ok d ds => .ok d ⟨dropO σ, ds⟩
    | .er x ds => .er x ⟨dropO σ, ds⟩
    | .no => .no)) : mHear 9 h__law_heard m ⟨σ, ds⟩ = .ok (tdD n r) ⟨σ, ds⟩ := by
  cases r with
  | ok es => exact heard_ok h
  | bad j => exact heard_er h rfl (heard_move _ _)
  | great => exact heard_er h rfl (heard_great _ _)
@[simp] theorem q_mOwn (cn : String) (fe : Fn) (g : D → D → Option D) (neg : Bool) (o p : Opd) (s : S) : mOwn cn fe g neg o p s = bnd o.ev (fun x => bnd p.ev fun y => bnd (o.rd x) fun a => bnd (p.rd y) fun b => ownC cn fe g neg a b) s := rfl
theorem eq_szl (n k : Int) (cs es : List Int) : dEq (.tup [.int n, .tup (cs.map .int)]) (.tup [.int k, .tup (es.map .int)]) = some (.bl (decide (n = k) && decide (cs = es))) := by
  unfold dEq
  simp [plain, plainAll, ints_plain, SeqAt.shaped, toP, toPs, PyData.canLay0, PyData.canLayAll0, ints_canLay, PyData.depth, PyData.depthAll, ints_depth, PyData.eqv, PyData.eqvAll, ints_eqv]
  by_cases h : n = k <;> simp [h]
theorem weq_ok (n k : Int) (cs es : List Int) (ds : Option DSt) : f_Word___eq__ [wordD n cs, wordD k es] ds = .ok (.bl (decide (n = k) && decide (cs = es))) ds := by
  refine fn_rt (s := ⟨[some (.d (wordD n cs)), some (.d (wordD k es))], ds⟩) rfl ?_
  simp [b_Word___eq__, wordD, eq_szl]
theorem own_ww (g : D → D → Option D) (neg : Bool) (n : Int) (cs : List Int) (σ : List (Option Sl)) (ds : Option DSt) : ownC "Word" f_Word___eq__ g neg (wordD n cs) (wordD n cs) ⟨σ, ds⟩ = .ok (.bl (true != neg)) ⟨σ, ds⟩ := by
  have h := weq_ok n n cs cs ds
  simp only [wordD] at h ⊢
  simp only [ownC, and_self, if_true, q_call]
  rw [h]
  simp
noncomputable def tb : M Fl := sSeq (sAsg (mCall f__law_size (aCons (mV 1) (aNil))) (gV 3)) (sSeq (sAsg (mCall f__law_letters (aCons (mV 1) (aCons (mV 3) (aCons (m2 dIx (.v (mLst (aCons (ret (.int 9)) (aCons (ret (.int 38)) (aNil))))) (.v (mCall f__law_draw (aCons (mV 1) (aCons (ret (.int 2)) (aNil)))))) (aNil))))) (gV 4)) (sSeq (sAsg (mCall f_Word___init__ (aCons (mV 3) (aCons (mV 4) (aNil)))) (gV 5)) (sSeq (sAsg (mCall f__law_moves (aCons (mV 1) (aCons (mV 3) (aCons (mV 4) (aCons (mCall f__law_draw (aCons (mV 1) (aCons (ret (.int 16)) (aNil)))) (aNil)))))) (gU [gV 14, gV 15])) (sSeq (sAsg (m2 dIx (.v (mLst (aCons (mV 14) (aCons (mBi dTuple [.n 14]) (aNil))))) (.v (mCall f__law_draw (aCons (mV 1) (aCons (ret (.int 2)) (aNil)))))) (gV 6)) (sSeq (sAsg (mCall f_walked (aCons (mV 5) (aCons (mV 6) (aNil)))) (gV 7)) (sSeq (sIf (Lw.tOr (Lw.tNot (tB (mCall f__law_is_word (aCons (mV 7) (aCons (mV 3) (aCons (mV 15) (aNil))))))) (tB (m2 dNe (.v (mBi dList [.n 6])) (.n 14)))) (sRet (ret (.bl false))) (sNx)) (sSeq (sAsg (mCall f_returned (aCons (mV 6) (aNil))) (gV 8)) (sSeq (sAsg (ret (.dct [(.str "in", .str "out"), (.str "out", .str "in"), (.str "first", .str "first"), (.str "last", .str "last")])) (gV 9)) (sSeq (sIf (Lw.tNot (tB (mCall f__law_like (aCons (mV 8) (aCons (mBi dTuple [.v (mF (mLc (bnd (m1 dBack (.n 14)) (fun a => opt (items a))) (gT [gV 18, gV 11]) (tTrue) (mTup (aCons (mGetI (mV 9) (mV 18)) (aCons (mV 11) (aNil)))) [18, 11]))]) (aNil)))))) (sRet (ret (.bl false))) (sNx)) (sSeq (sIf (Lw.tOr (tB (mOwn "Word" f_Word___eq__ dNe true (.v (mCall f_walked (aCons (mV 7) (aCons (mV 8) (aNil))))) (.n 5))) (Lw.tOr (tB (m2 dNe (.v (mCall f_returned (aCons (mV 8) (aNil)))) (.v (mBi dTuple [.n 14])))) (Lw.tNot (tB (mCall f__law_is_word (aCons (mV 5) (aCons (mV 3) (aCons (mV 4) (aNil))))))))) (sRet (ret (.bl false))) (sNx)) (sSeq (sAsg (m2 dIx (.v (mLst (aCons (ret .non) (aCons (mTup (aCons (ret (.str "first")) (aCons (ret (.int 39)) (aNil)))) (aCons (mTup (aCons (ret (.str "out")) (aCons (ret (.int 0)) (aNil)))) (aCons (mTup (aCons (ret (.str "in")) (aCons (ret (.int 41)) (aNil)))) (aCons (mTup (aCons (ret (.str "in")) (aCons (ret (.int 0)) (aNil)))) (aCons (ret (.int 5)) (aCons (mLst (aCons (ret (.str "in")) (aCons (ret (.int 0)) (aNil)))) (aCons (mTup (aCons (ret (.str "last")) (aCons (m1 dNg (.v (ret (.int 1)))) (aNil)))) (aNil))))))))))) (.v (mCall f__law_draw (aCons (mV 1) (aCons (ret (.int 8)) (aNil)))))) (gV 10)) (sSeq (sAsg (mCall f__law_draw (aCons (mV 1) (aCons (m2 dAdd (.v (mBi dLen [.n 14])) (.v (ret (.int 1)))) (aNil)))) (gV 11)) (sSeq (sAsg (m2 dAdd (.v (m2 dAdd (.v (mCut (.n 14) none (some (mV 11)))) (.v (m2 dMul (.v (mLst (aCons (mV 10) (aNil)))) (.v (m2 dAdd (.v (ret (.int 1))) (.v (mCall f__law_draw (aCons (mV 1) (aCons (ret (.int 9)) (aNil))))))))))) (.v (mCut (.n 14) (some (mV 11)) none))) (gV 12)) (sSeq (sAsg (mTup (aCons (mCall f__law_stopped (aCons (mV 3) (aCons (mV 4) (aCons (mV 12) (aNil))))) (aCons (mHear 9 h__law_heard (mCall f_walked (aCons (mV 5) (aCons (mV 12) (aNil))))) (aNil)))) (gT [gV 16, gV 17])) (sSeq (sIf (Lw.tAnd (tB (m2 dIsN (.n 16) (.v (ret .non)))) (tB (m1 (dIsT "list") (.n 17)))) (sAsg (ret .non) (gV 17)) (sNx)) (sSeq (sIf (tB (m2 dNeX (.n 17) (.n 16))) (sRet (ret (.bl false))) (sNx)) (sSeq (sAsg (m2 dIx (.v (mLst (aCons (ret .non) (aCons (ret (.int 5)) (aCons (ret (.str "first")) (aCons (ret (.dct [])) (aCons (ret (.bl true)) (aCons (mV 5) (aCons (m2 dPw (.v (ret (.int 10))) (.v (ret (.int 30)))) (aNil)))))))))) (.v (mCall f__law_draw (aCons (mV 1) (aCons (ret (.int 7)) (aNil)))))) (gV 13)) (sIf (tB (m2 dNeX (.v (mHear 9 h__law_heard (mCall f_walked (aCons (mV 5) (aCons (mV 13) (aNil)))))) (.v (mTup (aCons (ret (.str "move")) (aCons (ret .non) (aNil))))))) (sRet (ret (.bl false))) (sNx)))))))))))))))))))
def oddR : List D := [.non, .int 5, .str "first", .dct [], .bl true, .int 1000000000000000000000000000000]
def TnP (ns : List Int) (k : Nat) (s : S) : Prop := ∃ (a2 a3 a4 a5 a6 a7 a8 a9 a10 a12 a13 a14 a15 a16 a17 : Option Sl) (b11 : Option D) (st : DSt), s = ⟨[some (.d (.scr ns)), some (.d .dm), a2, a3, a4, a5, a6, a7, a8, a9, a10, b11.map .d, a12, a13, a14, a15, a16, a17, none], some st⟩ ∧ st.spot ≤ 300 * k
theorem turn_ok {ns : List Int} {k : Nat} {x : D} {s : S} (hk : k < 10) (h : TnP ns k s) : ∃ s', bnd (cl (gV 2 x)) (fun _ => tb) s = .ok .nx s' ∧ TnP ns (k + 1) s' := by
  obtain ⟨a2, a3, a4, a5, a6, a7, a8, a9, a10, a12, a13, a14, a15, a16, a17, b11, st, rfl, hsp⟩ := h
  obtain ⟨v0, st1, e1, a1', b1, s1⟩ := draw_ok (lim := 5) (st := st) (by decide) (by decide) (by omega)
  have n1 : 2 ≤ 2 + v0 := by omega
  have n2 : 2 + v0 ≤ 6 := by omega
  generalize hn : 2 + v0 = n at n1 n2
  have ez : f__law_size [.dm] (some st) = .ok (.int n) (some st1) := by simp [f__law_size, fnOf, b__law_size, e1, hn]
  obtain ⟨v1, st2, e2, a2', b2, s2⟩ := draw_ok (lim := 2) (st := st1) (by decide) (by decide) (by omega)
  obtain ⟨mst, em, m0, m1'⟩ : ∃ mst : Int, L2.atI [D.int 9, D.int 38] v1 = some (.int mst) ∧ 0 ≤ mst ∧ mst ≤ 40 := by
    have : v1 = 0 ∨ v1 = 1 := by omega
    rcases this with rfl | rfl
    · exact ⟨9, rfl, by decide, by decide⟩
    · exact ⟨38, rfl, by decide, by decide⟩
  obtain ⟨cs, st3, e3, lc, hc, s3⟩ := letters_ok (n := n) (most := mst) (st := st2) n1 n2 m0 (by omega) (by omega)
  have hl : cs.length ≤ 40 := by omega
  have w1 := word_int (d := .lst (cs.map .int)) n1 n2 (.inl rfl) hl hc (some st3)
  obtain ⟨v4, st4, e4, a4', b4, s4⟩ := draw_ok (lim := 16) (st := st3) (by decide) (by decide) (by omega)
  obtain ⟨row, es, st5, e5, hg, hr5, s5⟩ := lmoves_ok (n := n) (many := v4) (cs := cs) (st := st4) n1 n2 hl hc a4' (by omega) (by omega)
  obtain ⟨hle, hce⟩ := gw_in row cs es hg hl hc
  have rl : row.length ≤ 15 := by omega
  obtain ⟨v6, st6, e6, a6', b6, s6⟩ := draw_ok (lim := 2) (st := st5) (by decide) (by decide) (by omega)
  obtain ⟨gv, eh, hLT⟩ : ∃ gv, L2.atI [D.lst (row.map mvP), D.tup (row.map mvP)] v6 = some gv ∧ isLT gv (row.map mvP) := by
    have : v6 = 0 ∨ v6 = 1 := by omega
    rcases this with rfl | rfl
    · exact ⟨_, rfl, .inl rfl⟩
    · exact ⟨_, rfl, .inr rfl⟩
  have mvI : ∀ r : List (Kd × Int), (r.map Itm.mv).map Itm.d = r.map mvP := fun r => by rw [List.map_map]; rfl
  have mvO : ∀ r : List (Kd × Int), ∀ i ∈ r.map Itm.mv, i.Ok := fun r i hi => by
    obtain ⟨q, _, rfl⟩ := List.mem_map.mp hi
    trivial
  have wl1 := walked_ok (n := n) (d := gv) (r := row.map .mv) (cs := cs) n1 n2 (by rw [mvI]; exact hLT) (mvO row) hl hc (some st6)
  rw [gw_wk row 0 cs es hg] at wl1
  simp only [wkR] at wl1
  have iw1 := isw_ok (n := n) (cs := es) n1 n2 (by omega) (fun x hx => by have := hce x hx; omega) (some st6)
  have lg : dList [gv] = some (.lst (row.map mvP)) := by rcases hLT with rfl | rfl <;> rfl
  have ne1 : dNe (.lst (row.map mvP)) (.lst (row.map mvP)) = some (.bl false) := ne_self (Ly.lst (ly_mvs row)) (by decide)
  have rt1 := returned_ok hLT (by omega) (some st6)
  have shB : ∀ r : List (Kd × Int), r.length ≤ 100 → (∀ q ∈ r, 0 ≤ q.2 ∧ q.2 < 1000) → Shw 2 200000 (.tup (r.map mvP)) := fun r hr hq => Shw.tup (v := 900) (fun y hy => by
    obtain ⟨q, hq', rfl⟩ := List.mem_map.mp hy
    exact shw_mv (hq q hq')) (by rw [List.length_map]; omega)
  have hrow : ∀ q ∈ row, 0 ≤ q.2 ∧ q.2 < 1000 := gw_rng row cs es n1 hg hl
  have bl : (bck row).length = row.length := by simp [bck]
  have hbck : ∀ q ∈ bck row, 0 ≤ q.2 ∧ q.2 < 1000 := fun q hq => by
    obtain ⟨q', hq', rfl⟩ := List.mem_map.mp hq
    exact hrow q' (List.mem_reverse.mp hq')
  have lk := like_ok (a := .tup ((bck row).map mvP)) rfl ((shB (bck row) (by omega) hbck).mono (by decide) (by decide)) (some st6)
  have lcm := lcL_mapP (g := gT [gV 18, gV 11]) (e := mTup (aCons (mGetI (mV 9) (mV 18)) (aCons (mV 11) (aNil)))) (vs := [18, 11]) (f := op1) (s := ⟨[some (.d (.scr ns)), some (.d .dm), some (.d x), some (.d (.int n)), some (.d (.lst (cs.map .int))), some (.d (wordD n cs)), some (.d (gv)), some (.d (wordD n es)), some (.d (.tup ((bck row).map mvP))), some (.d (.dct [(.str "in", .str "out"), (.str "out", .str "in"), (.str "first", .str "first"), (.str "last", .str "last")])), a10, none, a12, a13, some (.d (.lst (row.map mvP))), some (.d (.lst (es.map .int))), a16, a17, none], some st6⟩) row.reverse fun q _ => by
    simp [mvP, mvD, op1, wipeS, get_opp4]
  rw [← bck_map, List.map_reverse] at lcm
  have wl2 := walked_ok (n := n) (d := .tup ((bck row).map mvP)) (r := (bck row).map .mv) (cs := es) n1 n2 (.inr (by rw [mvI])) (mvO _) hle hce (some st6)
  rw [gw_wk (bck row) 0 es cs (gw_back n1 row cs es hl hg)] at wl2
  simp only [wkR] at wl2
  have rt2 := returned_ok (d := .tup ((bck row).map mvP)) (r := bck row) (.inr rfl) (by omega) (some st6)
  rw [bck_bck] at rt2
  have ne2 : dNe (.tup (row.map mvP)) (.tup (row.map mvP)) = some (.bl false) := ne_self (Ly.tup (ly_mvs row)) (by decide)
  have iw2 := isw_ok (n := n) (cs := cs) n1 n2 (by omega) (fun x hx => by have := hc x hx; omega) (some st6)
  obtain ⟨v7, st7, e7, a7', b7, s7⟩ := draw_ok (lim := 8) (st := st6) (by decide) (by decide) (by omega)
  obtain ⟨wr, ew, hw⟩ : ∃ wr : Itm, L2.atI [.non, .tup [.str "first", .int 39], .tup [.str "out", .int 0], .tup [.str "in", .int 41], .tup [.str "in", .int 0], .int 5, .lst [.str "in", .int 0], .tup [.str "last", .int (-1)]] v7 = some wr.d ∧ wr.Ok := by
    have : v7 = 0 ∨ v7 = 1 ∨ v7 = 2 ∨ v7 = 3 ∨ v7 = 4 ∨ v7 = 5 ∨ v7 = 6 ∨ v7 = 7 := by omega
    rcases this with rfl | rfl | rfl | rfl | rfl | rfl | rfl | rfl
    · exact ⟨.bad .non, rfl, fun ds => ⟨by kernel_rfl, by kernel_rfl⟩⟩
    · exact ⟨.mv (.fst, 39), rfl, trivial⟩
    · exact ⟨.mv (.out, 0), rfl, trivial⟩
    · exact ⟨.mv (.inn, 41), rfl, trivial⟩
    · exact ⟨.mv (.inn, 0), rfl, trivial⟩
    · exact ⟨.bad (.int 5), rfl, fun ds => ⟨by kernel_rfl, by kernel_rfl⟩⟩
    · exact ⟨.bad (.lst [.str "in", .int 0]), rfl, fun ds => ⟨by kernel_rfl, by kernel_rfl⟩⟩
    · exact ⟨.mv (.lst, -1), rfl, trivial⟩
  obtain ⟨v8, st8, e8, a8', b8, s8⟩ := draw_ok (lim := (row.length : Int) + 1) (st := st7) (by omega) (by omega) (by omega)
  obtain ⟨kk, rfl⟩ : ∃ kk : Nat, v8 = kk := ⟨v8.toNat, by omega⟩
  obtain ⟨v9, st9, e9, a9', b9, s9⟩ := draw_ok (lim := 9) (st := st8) (by decide) (by decide) (by omega)
  obtain ⟨jj, hj, em9⟩ : ∃ jj : Nat, jj ≤ 9 ∧ dMul (.lst [wr.d]) (.int (1 + v9)) = some (.lst (List.replicate jj wr.d)) := by
    have : v9 = 0 ∨ v9 = 1 ∨ v9 = 2 ∨ v9 = 3 ∨ v9 = 4 ∨ v9 = 5 ∨ v9 = 6 ∨ v9 = 7 ∨ v9 = 8 := by omega
    rcases this with rfl | rfl | rfl | rfl | rfl | rfl | rfl | rfl | rfl
    · exact ⟨1, by decide, rfl⟩
    · exact ⟨2, by decide, rfl⟩
    · exact ⟨3, by decide, rfl⟩
    · exact ⟨4, by decide, rfl⟩
    · exact ⟨5, by decide, rfl⟩
    · exact ⟨6, by decide, rfl⟩
    · exact ⟨7, by decide, rfl⟩
    · exact ⟨8, by decide, rfl⟩
    · exact ⟨9, by decide, rfl⟩
  have c1 : cut (row.map mvP) none (some (kk : Int)) = (row.take kk).map mvP := by
    rw [cut_take _ (by omega), List.map_take]
    rfl
  have c2 : cut (row.map mvP) (some (kk : Int)) none = (row.drop kk).map mvP := by
    rw [cut_drop _ (by omega), List.map_drop]
    rfl
  obtain ⟨B, hB, hBo⟩ : ∃ B : List Itm, (row.take kk).map mvP ++ (List.replicate jj wr.d ++ (row.drop kk).map mvP) = B.map Itm.d ∧ ∀ i ∈ B, i.Ok := by
    refine ⟨(row.take kk).map .mv ++ (List.replicate jj wr ++ (row.drop kk).map .mv), ?_, fun i hi => ?_⟩
    · rw [List.map_append, List.map_append, mvI, mvI, List.map_replicate]
    · rcases List.mem_append.mp hi with h | h
      · exact mvO _ i h
      · rcases List.mem_append.mp h with h | h
        · rw [List.eq_of_mem_replicate h]
          exact hw
        · exact mvO _ i h
  have big : (1000 : Nat) ≤ line := by decide
  have q1 : ((row.take kk).map mvP).length + jj ≤ line := by rw [List.length_map, List.length_take]; omega
  have q2 : ((row.take kk).map mvP).length + jj + ((row.drop kk).map mvP).length ≤ line := by rw [List.length_map, List.length_map, List.length_take, List.length_drop]; omega
  have q3 : ((row.take kk).map mvP).length + (jj + ((row.drop kk).map mvP).length) ≤ line := by rw [List.length_map, List.length_map, List.length_take, List.length_drop]; omega
  generalize (row.take kk).map mvP = R1 at c1 hB q1 q2 q3
  generalize (row.drop kk).map mvP = R2 at c2 hB q2 q3
  have sto := stopped_ok (n := n) (r := B) (cs := cs) n1 n2 hBo hl (some st9)
  have wl3 := walked_ok (n := n) (d := .lst (B.map Itm.d)) (r := B) (cs := cs) n1 n2 (.inl rfl) hBo hl hc (some st9)
  generalize hX : wk n 0 B cs = XX at sto wl3
  have wne := wkD_ne XX
  obtain ⟨v10, st10, e10, a10', b10, s10⟩ := draw_ok (lim := 7) (st := st9) (by decide) (by decide) (by omega)
  have e30 : dPw (.int 10) (.int 30) = some (.int 1000000000000000000000000000000) := by rfl
  obtain ⟨od, eo, ho⟩ : ∃ od, L2.atI [.non, .int 5, .str "first", .dct [], .bl true, wordD n cs, .int 1000000000000000000000000000000] v10 = some od ∧ f_is_row [od] (some st10) = .ok (.bl false) (some st10) := by
    refine atI_all (P := fun od => f_is_row [od] (some st10) = .ok (.bl false) (some st10)) a10' (by simpa using b10) fun x hx => ?_
    simp only [List.mem_cons, List.not_mem_nil, or_false] at hx
    rcases hx with rfl | rfl | rfl | rfl | rfl | rfl | rfl
    · exact row_ok (d := .non) (by simp [tyD]) _
    · exact row_ok (d := .int 5) (by simp [tyD]) _
    · exact row_ok (d := .str "first") (by simp [tyD]) _
    · exact row_ok (d := .dct []) (by simp [tyD]) _
    · exact row_ok (d := .bl true) (by simp [tyD]) _
    · simp [f_is_row, fnOf, b_is_row, dIsT2X, clsN]
    · exact row_ok (d := .int 1000000000000000000000000000000) (by simp [tyD]) _
  have wl4 := walked_no (w := wordD n cs) ho
  have ne4 : dNeX (.tup [.str "move", .non]) (.tup [.str "move", .non]) = some (.bl false) := by kernel_rfl
  refine ⟨⟨[some (.d (.scr ns)), some (.d .dm), some (.d x), some (.d (.int n)), some (.d (.lst (cs.map .int))), some (.d (wordD n cs)), some (.d (gv)), some (.d (wordD n es)), some (.d (.tup ((bck row).map mvP))), some (.d (.dct [(.str "in", .str "out"), (.str "out", .str "in"), (.str "first", .str "first"), (.str "last", .str "last")])), some (.d (wr.d)), some (.d (.int (kk : Int))), some (.d (.lst (B.map Itm.d))), some (.d (od)), some (.d (.lst (row.map mvP))), some (.d (.lst (es.map .int))), some (.d (wkD XX)), some (.d (wkD XX)), none], some st10⟩, ?_, some (.d x), _, _, _, _, _, _, _, _, _, _, _, _, _, _, some (.int kk), st10, rfl, by omega⟩
  rw [bnd_ok (s' := ⟨[some (.d (.scr ns)), some (.d .dm), some (.d x), a3, a4, a5, a6, a7, a8, a9, a10, b11.map .d, a12, a13, a14, a15, a16, a17, none], some st⟩) (a := ()) (by simp)]
  unfold tb
  rw [seq_ok (s' := ⟨[some (.d (.scr ns)), some (.d .dm), some (.d x), some (.d (.int n)), a4, a5, a6, a7, a8, a9, a10, b11.map .d, a12, a13, a14, a15, a16, a17, none], some st1⟩) (by simp [ez])]
  rw [seq_ok (s' := ⟨[some (.d (.scr ns)), some (.d .dm), some (.d x), some (.d (.int n)), some (.d (.lst (cs.map .int))), a5, a6, a7, a8, a9, a10, b11.map .d, a12, a13, a14, a15, a16, a17, none], some st3⟩) (by simp [e2, em, e3])]
  rw [seq_ok (s' := ⟨[some (.d (.scr ns)), some (.d .dm), some (.d x), some (.d (.int n)), some (.d (.lst (cs.map .int))), some (.d (wordD n cs)), a6, a7, a8, a9, a10, b11.map .d, a12, a13, a14, a15, a16, a17, none], some st3⟩) (by simp [w1])]
  rw [seq_ok (s' := ⟨[some (.d (.scr ns)), some (.d .dm), some (.d x), some (.d (.int n)), some (.d (.lst (cs.map .int))), some (.d (wordD n cs)), a6, a7, a8, a9, a10, b11.map .d, a12, a13, some (.d (.lst (row.map mvP))), some (.d (.lst (es.map .int))), a16, a17, none], some st5⟩) (by simp [e4, e5])]
  rw [seq_ok (s' := ⟨[some (.d (.scr ns)), some (.d .dm), some (.d x), some (.d (.int n)), some (.d (.lst (cs.map .int))), some (.d (wordD n cs)), some (.d (gv)), a7, a8, a9, a10, b11.map .d, a12, a13, some (.d (.lst (row.map mvP))), some (.d (.lst (es.map .int))), a16, a17, none], some st6⟩) (by simp [e6, eh])]
  rw [seq_ok (s' := ⟨[some (.d (.scr ns)), some (.d .dm), some (.d x), some (.d (.int n)), some (.d (.lst (cs.map .int))), some (.d (wordD n cs)), some (.d (gv)), some (.d (wordD n es)), a8, a9, a10, b11.map .d, a12, a13, some (.d (.lst (row.map mvP))), some (.d (.lst (es.map .int))), a16, a17, none], some st6⟩) (by simp [wl1])]
  rw [seq_ok (s' := ⟨[some (.d (.scr ns)), some (.d .dm), some (.d x), some (.d (.int n)), some (.d (.lst (cs.map .int))), some (.d (wordD n cs)), some (.d (gv)), some (.d (wordD n es)), a8, a9, a10, b11.map .d, a12, a13, some (.d (.lst (row.map mvP))), some (.d (.lst (es.map .int))), a16, a17, none], some st6⟩) (by simp [iw1, lg, ne1])]
  rw [seq_ok (s' := ⟨[some (.d (.scr ns)), some (.d .dm), some (.d x), some (.d (.int n)), some (.d (.lst (cs.map .int))), some (.d (wordD n cs)), some (.d (gv)), some (.d (wordD n es)), some (.d (.tup ((bck row).map mvP))), a9, a10, b11.map .d, a12, a13, some (.d (.lst (row.map mvP))), some (.d (.lst (es.map .int))), a16, a17, none], some st6⟩) (by simp [rt1])]
  rw [seq_ok (s' := ⟨[some (.d (.scr ns)), some (.d .dm), some (.d x), some (.d (.int n)), some (.d (.lst (cs.map .int))), some (.d (wordD n cs)), some (.d (gv)), some (.d (wordD n es)), some (.d (.tup ((bck row).map mvP))), some (.d (.dct [(.str "in", .str "out"), (.str "out", .str "in"), (.str "first", .str "first"), (.str "last", .str "last")])), a10, b11.map .d, a12, a13, some (.d (.lst (row.map mvP))), some (.d (.lst (es.map .int))), a16, a17, none], some st6⟩) (by simp [])]
  have eA : lcA (gT [gV 18, gV 11]) (tTrue) (mTup (aCons (mGetI (mV 9) (mV 18)) (aCons (mV 11) (aNil)))) [18, 11] (row.map mvP).reverse ⟨[some (.d (.scr ns)), some (.d .dm), some (.d x), some (.d (.int n)), some (.d (.lst (cs.map .int))), some (.d (wordD n cs)), some (.d (gv)), some (.d (wordD n es)), some (.d (.tup ((bck row).map mvP))), some (.d (.dct [(.str "in", .str "out"), (.str "out", .str "in"), (.str "first", .str "first"), (.str "last", .str "last")])), a10, b11.map .d, a12, a13, some (.d (.lst (row.map mvP))), some (.d (.lst (es.map .int))), a16, a17, none], some st6⟩ = .ok ((bck row).map mvP) ⟨[some (.d (.scr ns)), some (.d .dm), some (.d x), some (.d (.int n)), some (.d (.lst (cs.map .int))), some (.d (wordD n cs)), some (.d (gv)), some (.d (wordD n es)), some (.d (.tup ((bck row).map mvP))), some (.d (.dct [(.str "in", .str "out"), (.str "out", .str "in"), (.str "first", .str "first"), (.str "last", .str "last")])), a10, b11.map .d, a12, a13, some (.d (.lst (row.map mvP))), some (.d (.lst (es.map .int))), a16, a17, none], some st6⟩ := by
    have en : noOwn [18, 11] [some (.d (.scr ns)), some (.d .dm), some (.d x), some (.d (.int n)), some (.d (.lst (cs.map .int))), some (.d (wordD n cs)), some (.d (gv)), some (.d (wordD n es)), some (.d (.tup ((bck row).map mvP))), some (.d (.dct [(.str "in", .str "out"), (.str "out", .str "in"), (.str "first", .str "first"), (.str "last", .str "last")])), a10, b11.map .d, a12, a13, some (.d (.lst (row.map mvP))), some (.d (.lst (es.map .int))), a16, a17, none] = true := by cases b11 <;> rfl
    simp [-q_lc1, en, wipeS, unwipe]
    rw [lcm]
    simp
  rw [seq_ok (s' := ⟨[some (.d (.scr ns)), some (.d .dm), some (.d x), some (.d (.int n)), some (.d (.lst (cs.map .int))), some (.d (wordD n cs)), some (.d (gv)), some (.d (wordD n es)), some (.d (.tup ((bck row).map mvP))), some (.d (.dct [(.str "in", .str "out"), (.str "out", .str "in"), (.str "first", .str "first"), (.str "last", .str "last")])), a10, b11.map .d, a12, a13, some (.d (.lst (row.map mvP))), some (.d (.lst (es.map .int))), a16, a17, none], some st6⟩) (by simp [-q_lcA, eA, lk])]
  rw [seq_ok (s' := ⟨[some (.d (.scr ns)), some (.d .dm), some (.d x), some (.d (.int n)), some (.d (.lst (cs.map .int))), some (.d (wordD n cs)), some (.d (gv)), some (.d (wordD n es)), some (.d (.tup ((bck row).map mvP))), some (.d (.dct [(.str "in", .str "out"), (.str "out", .str "in"), (.str "first", .str "first"), (.str "last", .str "last")])), a10, b11.map .d, a12, a13, some (.d (.lst (row.map mvP))), some (.d (.lst (es.map .int))), a16, a17, none], some st6⟩) (by simp [wl2, own_ww, rt2, ne2, iw2])]
  rw [seq_ok (s' := ⟨[some (.d (.scr ns)), some (.d .dm), some (.d x), some (.d (.int n)), some (.d (.lst (cs.map .int))), some (.d (wordD n cs)), some (.d (gv)), some (.d (wordD n es)), some (.d (.tup ((bck row).map mvP))), some (.d (.dct [(.str "in", .str "out"), (.str "out", .str "in"), (.str "first", .str "first"), (.str "last", .str "last")])), some (.d (wr.d)), b11.map .d, a12, a13, some (.d (.lst (row.map mvP))), some (.d (.lst (es.map .int))), a16, a17, none], some st7⟩) (by simp [e7, ew])]
  rw [seq_ok (s' := ⟨[some (.d (.scr ns)), some (.d .dm), some (.d x), some (.d (.int n)), some (.d (.lst (cs.map .int))), some (.d (wordD n cs)), some (.d (gv)), some (.d (wordD n es)), some (.d (.tup ((bck row).map mvP))), some (.d (.dct [(.str "in", .str "out"), (.str "out", .str "in"), (.str "first", .str "first"), (.str "last", .str "last")])), some (.d (wr.d)), some (.d (.int (kk : Int))), a12, a13, some (.d (.lst (row.map mvP))), some (.d (.lst (es.map .int))), a16, a17, none], some st8⟩) (by simp [e8])]
  rw [seq_ok (s' := ⟨[some (.d (.scr ns)), some (.d .dm), some (.d x), some (.d (.int n)), some (.d (.lst (cs.map .int))), some (.d (wordD n cs)), some (.d (gv)), some (.d (wordD n es)), some (.d (.tup ((bck row).map mvP))), some (.d (.dct [(.str "in", .str "out"), (.str "out", .str "in"), (.str "first", .str "first"), (.str "last", .str "last")])), some (.d (wr.d)), some (.d (.int (kk : Int))), some (.d (.lst (B.map Itm.d))), a13, some (.d (.lst (row.map mvP))), some (.d (.lst (es.map .int))), a16, a17, none], some st9⟩) (by simp [c1, c2, e9, em9, q1, q2, q3, hB])]
  have th : mHear 9 h__law_heard (mCall f_walked (aCons (mV 5) (aCons (mV 12) (aNil)))) ⟨[some (.d (.scr ns)), some (.d .dm), some (.d x), some (.d (.int n)), some (.d (.lst (cs.map .int))), some (.d (wordD n cs)), some (.d (gv)), some (.d (wordD n es)), some (.d (.tup ((bck row).map mvP))), some (.d (.dct [(.str "in", .str "out"), (.str "out", .str "in"), (.str "first", .str "first"), (.str "last", .str "last")])), some (.d (wr.d)), some (.d (.int (kk : Int))), some (.d (.lst (B.map Itm.d))), a13, some (.d (.lst (row.map mvP))), some (.d (.lst (es.map .int))), a16, a17, none], some st9⟩ = .ok (tdD n XX) ⟨[some (.d (.scr ns)), some (.d .dm), some (.d x), some (.d (.int n)), some (.d (.lst (cs.map .int))), some (.d (wordD n cs)), some (.d (gv)), some (.d (wordD n es)), some (.d (.tup ((bck row).map mvP))), some (.d (.dct [(.str "in", .str "out"), (.str "out", .str "in"), (.str "first", .str "first"), (.str "last", .str "last")])), some (.d (wr.d)), some (.d (.int (kk : Int))), some (.d (.lst (B.map Itm.d))), a13, some (.d (.lst (row.map mvP))), some (.d (.lst (es.map .int))), a16, a17, none], some st9⟩ := heard_wk (r := XX) (by cases XX <;> simp [dropO, wl3, wkR])
  rw [seq_ok (s' := ⟨[some (.d (.scr ns)), some (.d .dm), some (.d x), some (.d (.int n)), some (.d (.lst (cs.map .int))), some (.d (wordD n cs)), some (.d (gv)), some (.d (wordD n es)), some (.d (.tup ((bck row).map mvP))), some (.d (.dct [(.str "in", .str "out"), (.str "out", .str "in"), (.str "first", .str "first"), (.str "last", .str "last")])), some (.d (wr.d)), some (.d (.int (kk : Int))), some (.d (.lst (B.map Itm.d))), a13, some (.d (.lst (row.map mvP))), some (.d (.lst (es.map .int))), some (.d (wkD XX)), some (.d (tdD n XX)), none], some st9⟩) (by simp [sto, th])]
  rw [seq_ok (s' := ⟨[some (.d (.scr ns)), some (.d .dm), some (.d x), some (.d (.int n)), some (.d (.lst (cs.map .int))), some (.d (wordD n cs)), some (.d (gv)), some (.d (wordD n es)), some (.d (.tup ((bck row).map mvP))), some (.d (.dct [(.str "in", .str "out"), (.str "out", .str "in"), (.str "first", .str "first"), (.str "last", .str "last")])), some (.d (wr.d)), some (.d (.int (kk : Int))), some (.d (.lst (B.map Itm.d))), a13, some (.d (.lst (row.map mvP))), some (.d (.lst (es.map .int))), some (.d (wkD XX)), some (.d (wkD XX)), none], some st9⟩) (by cases XX <;> simp [wkD, tdD, isNon, dIsT, tyD, subT])]
  rw [seq_ok (s' := ⟨[some (.d (.scr ns)), some (.d .dm), some (.d x), some (.d (.int n)), some (.d (.lst (cs.map .int))), some (.d (wordD n cs)), some (.d (gv)), some (.d (wordD n es)), some (.d (.tup ((bck row).map mvP))), some (.d (.dct [(.str "in", .str "out"), (.str "out", .str "in"), (.str "first", .str "first"), (.str "last", .str "last")])), some (.d (wr.d)), some (.d (.int (kk : Int))), some (.d (.lst (B.map Itm.d))), a13, some (.d (.lst (row.map mvP))), some (.d (.lst (es.map .int))), some (.d (wkD XX)), some (.d (wkD XX)), none], some st9⟩) (by simp [wne])]
  rw [seq_ok (s' := ⟨[some (.d (.scr ns)), some (.d .dm), some (.d x), some (.d (.int n)), some (.d (.lst (cs.map .int))), some (.d (wordD n cs)), some (.d (gv)), some (.d (wordD n es)), some (.d (.tup ((bck row).map mvP))), some (.d (.dct [(.str "in", .str "out"), (.str "out", .str "in"), (.str "first", .str "first"), (.str "last", .str "last")])), some (.d (wr.d)), some (.d (.int (kk : Int))), some (.d (.lst (B.map Itm.d))), some (.d (od)), some (.d (.lst (row.map mvP))), some (.d (.lst (es.map .int))), some (.d (wkD XX)), some (.d (wkD XX)), none], some st10⟩) (by simp [e10, e30, eo])]
  have th2 : mHear 9 h__law_heard (mCall f_walked (aCons (mV 5) (aCons (mV 13) (aNil)))) ⟨[some (.d (.scr ns)), some (.d .dm), some (.d x), some (.d (.int n)), some (.d (.lst (cs.map .int))), some (.d (wordD n cs)), some (.d (gv)), some (.d (wordD n es)), some (.d (.tup ((bck row).map mvP))), some (.d (.dct [(.str "in", .str "out"), (.str "out", .str "in"), (.str "first", .str "first"), (.str "last", .str "last")])), some (.d (wr.d)), some (.d (.int (kk : Int))), some (.d (.lst (B.map Itm.d))), some (.d (od)), some (.d (.lst (row.map mvP))), some (.d (.lst (es.map .int))), some (.d (wkD XX)), some (.d (wkD XX)), none], some st10⟩ = .ok (.tup [.str "move", .non]) ⟨[some (.d (.scr ns)), some (.d .dm), some (.d x), some (.d (.int n)), some (.d (.lst (cs.map .int))), some (.d (wordD n cs)), some (.d (gv)), some (.d (wordD n es)), some (.d (.tup ((bck row).map mvP))), some (.d (.dct [(.str "in", .str "out"), (.str "out", .str "in"), (.str "first", .str "first"), (.str "last", .str "last")])), some (.d (wr.d)), some (.d (.int (kk : Int))), some (.d (.lst (B.map Itm.d))), some (.d (od)), some (.d (.lst (row.map mvP))), some (.d (.lst (es.map .int))), some (.d (wkD XX)), some (.d (wkD XX)), none], some st10⟩ := heard_er (σ' := dropO [some (.d (.scr ns)), some (.d .dm), some (.d x), some (.d (.int n)), some (.d (.lst (cs.map .int))), some (.d (wordD n cs)), some (.d (gv)), some (.d (wordD n es)), some (.d (.tup ((bck row).map mvP))), some (.d (.dct [(.str "in", .str "out"), (.str "out", .str "in"), (.str "first", .str "first"), (.str "last", .str "last")])), some (.d (wr.d)), some (.d (.int (kk : Int))), some (.d (.lst (B.map Itm.d))), some (.d (od)), some (.d (.lst (row.map mvP))), some (.d (.lst (es.map .int))), some (.d (wkD XX)), some (.d (wkD XX)), none]) (by simp [dropO, wl4]) rfl (heard_move _ _)
  simp [th2, ne4]
theorem law_ok (ns : List Int) : ∃ ds, f_law [.scr ns] none = .ok (.bl true) ds := by
  obtain ⟨s', e, a2, a3, a4, a5, a6, a7, a8, a9, a10, a12, a13, a14, a15, a16, a17, b11, st, rfl, hsp⟩ := forL_cnt (g := gV 2) (b := tb) (P := TnP ns) (rg 0 4) 0 ⟨[some (.d (.scr ns)), some (.d .dm), none, none, none, none, none, none, none, none, none, none, none, none, none, none, none, none, none], some (begun ns)⟩ ⟨none, none, none, none, none, none, none, none, none, none, none, none, none, none, none, none, begun ns, rfl, Nat.le_refl _⟩ fun x _ j s _ h4 h => turn_ok (by rw [rg_len] at h4; omega) h
  have w1 := word_int (n := 2) (d := .lst [.int 1]) (cs := [1]) (by decide) (by decide) (.inl rfl) (by decide) (by decide) (some st)
  have wk1 := walked_ok (n := 2) (d := .tup []) (r := []) (cs := [1]) (by decide) (by decide) (.inr rfl) (fun _ h => absurd h List.not_mem_nil) (by decide) (by decide) (some st)
  simp only [wk, wkR] at wk1
  have rt := returned_ok (d := .tup []) (r := []) (.inr rfl) (by decide) (some st)
  have q1 : dEq (.tup []) (.tup []) = some (.bl true) := by kernel_rfl
  have eb : (bck []).map mvP = [] := rfl
  rw [eb] at rt
  refine ⟨some st, fn_rt (s := ⟨[some (.d (.scr ns)), some (.d .dm), a2, a3, a4, a5, a6, a7, a8, a9, a10, b11.map .d, a12, a13, a14, a15, a16, a17, none], some st⟩) rfl ?_⟩
  unfold b_law
  rw [seq_ok (s' := ⟨[some (.d (.scr ns)), some (.d .dm), none, none, none, none, none, none, none, none, none, none, none, none, none, none, none, none, none], some (begun ns)⟩) (by simp [f__law_begun])]
  have hr := rg1_ok (v := 4) (by decide) (by decide)
  refine (seq_ok (s' := ⟨[some (.d (.scr ns)), some (.d .dm), a2, a3, a4, a5, a6, a7, a8, a9, a10, b11.map .d, a12, a13, a14, a15, a16, a17, none], some st⟩) ((show sFor _ _ _ _ = forL (gV 2) tb (rg 0 4) _ by simp [hr]; rfl).trans e)).trans ?_
  have oo := fun g neg σ => own_ww g neg 2 [1] σ (some st)
  simp only [wordD, List.map_cons, List.map_nil] at w1 wk1 oo
  simp [w1, wk1, oo, rt, q1]
end Lw
set_option Elab.async false
set_option linter.all false
set_option maxRecDepth 100000
set_option maxHeartbeats 0
/-! the head of law_k17_rows_of_moves (printed by genH.py) -/
namespace Lw
open PySem PySem.Spec PyProof.Rows L2
namespace Kh
def top (i : Nat) : Stmt := PySem.Challenge.pw_liftwords_k17_rows_of_moves.main.body.getD i (.Pass ⟨0, 0, 0, 0⟩)
def cls1 (s : Stmt) (j : Nat) : Stmt := match s with | .ClassDef _ _ _ b _ _ _ _ _ _ _ => b.getD j (.Pass ⟨0, 0, 0, 0⟩) | _ => .Pass ⟨0, 0, 0, 0⟩
def slots : List (String × List String) := [("Word", ["letters", "size"])]
abbrev R : PySem.W.OpenRow := PySem.W.OpenLaw.row PySem.Challenge.rw_liftwords_k17_rows_of_moves
def excs : List String := ["BadSize", "BadLetters", "BadIndex", "BadNumber", "BadDeed", "BadTable", "BadMove", "BadShape", "OtherSize", "OtherHouse", "Stuck", "TooGreat", "BadRecording"]
def defs0 : List (Nat × String) := [(36, "_law_folded"), (38, "_law_begun"), (35, "_law_mixed"), (37, "_law_draw"), (39, "_law_size"), (40, "_law_letters"), (19, "is_whole"), (20, "is_among"), (22, "need_size"), (21, "is_row"), (44, "_law_formed"), (45, "_law_moved"), (46, "_law_moves"), (27, "fall"), (30, "made"), (28, "is_formed"), (29, "can_move"), (31, "moved_at")]
def defs1 : List (Nat × String) := [(32, "walked"), (33, "returned"), (43, "_law_like"), (47, "_law_stopped"), (42, "_law_heard"), (41, "_law_is_word"), (48, "law")]
def defs : List (Nat × String) := defs0 ++ defs1
def meths0 : List (Nat × Nat × String × String) := [(24, 1, "Word", "__init__"), (24, 5, "Word", "__eq__")]
def meths : List (Nat × Nat × String × String) := meths0
def globs0 : List String := ["_law_folded", "_law_begun", "_law_mixed", "_law_draw", "_law_size", "_law_letters", "is_whole", "is_among", "need_size", "is_row", "_law_formed", "_law_moved", "_law_moves", "fall", "made", "is_formed", "can_move", "moved_at"]
def globs1 : List String := ["walked", "returned", "_law_like", "_law_stopped", "_law_heard", "_law_is_word", "law", "LiftError", "BadSize", "BadLetters", "BadIndex", "BadNumber", "BadDeed", "BadTable", "BadMove", "BadShape", "OtherSize", "OtherHouse"]
def globs2 : List String := ["Stuck", "TooGreat", "BadRecording", "Word", "KINDS"]
def globs : List String := globs0 ++ globs1 ++ globs2
def frees : List String := ["ValueError", "bool", "enumerate", "int", "isinstance", "len", "list", "range", "repr", "reversed", "str", "tuple", "zip"]
def intL : List (String × Int) := [("MOST_LETTERS", 40), ("MOST_SIZE", 6)]
def strL : List (String × String) := []
def tupL : List (String × List String) := [("KINDS", ["first", "last", "out", "in"])]
def mkrs : List String := ["Word"]
def methL0 : List (String × String) := [("Word", "__eq__")]
def methL : List (String × String) := methL0
def dd (p : Nat × String) : He.DefD := ⟨(Str.ofString p.2, none), Str.ofString p.2, Str.ofString p.2, defArgs (top p.1), defBody (top p.1), defScope (top p.1), [], []⟩
def md (p : Nat × Nat × String × String) : He.DefD := ⟨(Str.ofString p.2.2.1, some (Str.ofString p.2.2.2)), Str.ofString p.2.2.2, Str.ofString (p.2.2.1 ++ "." ++ p.2.2.2), defArgs (cls1 (top p.1) p.2.1), defBody (cls1 (top p.1) p.2.1), defScope (cls1 (top p.1) p.2.1), [], []⟩
def fn : List He.DefD := defs.map dd ++ meths.map md
def fa : List He.Fa := (globs.map fun x => He.Fa.glo (Str.ofString x)) ++ ((frees.map fun x => He.Fa.free (Str.ofString x)) ++ ((intL.map fun q => He.Fa.int (Str.ofString q.1) q.2) ++ ((strL.map fun q => He.Fa.str (Str.ofString q.1) (Str.ofString q.2)) ++ ((mkrs.map fun x => He.Fa.mkr (Str.ofString x)) ++ (methL.map fun q => He.Fa.meth (Str.ofString q.1) (Str.ofString q.2))))))
def file : Str := PySem.Challenge.pw_liftwords_k17_rows_of_moves.main.file
def exV : List String := ["BadLetters", "BadMove", "BadSize"]
def exR : List String := []
def exO : List String := ["TooGreat"]
def exsB (K : PySem.W.Frag) : Bool := (exV.all fun c => exB K file c "ValueError" "ValueError.__new__" "ValueError.__init__" [.type "ValueError", .type "Exception", .type "BaseException", .type "object"]) && ((exR.all fun c => exB K file c "RuntimeError" "RuntimeError.__new__" "RuntimeError.__init__" [.type "RuntimeError", .type "Exception", .type "BaseException", .type "object"]) && (exO.all fun c => exB K file c "OverflowError" "OverflowError.__new__" "OverflowError.__init__" [.type "OverflowError", .type "ArithmeticError", .type "Exception", .type "BaseException", .type "object"]))
def tf : List He.Defn := [("law", none)]
def ex (K : PySem.W.Frag) : Bool := (K.lookup sysModules).isNone && (exsB K && ((excs.all fun c => exAB K c) && ((excs.all fun x => excs.all fun cn => eqB (PySem.W.kitOne K (.ref (cAd K cn)) (.ref (cAd K x))) (some (cn == x))) && ((excs.all fun cn => eqB (PySem.W.exmAny K (.ref (cAd K cn)) [.ref (cAd K "LiftError"), .ref (cAd K "Stuck"), .ref (cAd K "TooGreat")]) (some true)) && (clsAllB K slots && ((excs.all fun cn => eqB (PySem.W.kitOne K (.ref (cAd K cn)) (.type "ValueError")) (some (isVal cn))) && (((slots.all fun p => He.eqO (PySem.W.findIn K (.ref (cAd K p.1)) "__ne__") (some (some (.builtin "object.__ne__")))) && (true && ((tupL.all fun q => tupSB K q.1 q.2) && (slots.all fun p => tyNames.all fun t => eqB (PySem.W.kitOne K (.ref (cAd K p.1)) (.type t)) (some false))))) && true)))))))
abbrev hk : PySem.W.Hook := hookL fa fn tf ex
def ob (s : PySem.W.SharedT) : He.AlX × Bool := (He.obsX 5 fa fn [] tf ex (HandSHeadRun.getT s), smB (HandSHeadRun.getT s) && tpB (HandSHeadRun.getT s))
theorem ob_eq (s : PySem.W.SharedT) : ob s = hk.obs s.abs := by
  have e : HandSHeadRun.getT s = s.abs.heap.get? := funext (HandSHeadRun.getT_eq s)
  show (He.obsX 5 fa fn [] tf ex (HandSHeadRun.getT s), smB (HandSHeadRun.getT s) && tpB (HandSHeadRun.getT s)) = (He.obsX 5 fa fn [] tf ex s.abs.heap.get?, smB s.abs.heap.get? && tpB s.abs.heap.get?)
  rw [e]
def loose0 : List Str := ["_wall", "LiftError", "BadSize", "BadLetters", "BadIndex", "BadNumber", "BadDeed", "BadTable", "BadMove", "BadShape", "BadRecording", "OtherSize", "OtherHouse", "Stuck", "TooGreat", "MOST_SIZE", "MOST_LETTERS", "is_whole"]
def loose1 : List Str := ["is_among", "is_row", "need_size", "need_like", "Word", "KINDS", "fall", "is_formed", "can_move", "made", "moved_at", "walked", "returned", "_law_mixed", "_law_folded", "_law_draw", "_law_begun", "_law_size"]
def loose2 : List Str := ["_law_letters", "_law_is_word", "_law_heard", "_law_like", "_law_formed", "_law_moved", "_law_moves", "_law_stopped"]
def loose : List Str := loose0 ++ loose1 ++ loose2
def steps : Nat := 30000
theorem run (w : World) : HandSHeadRun.RunEq R (PySem.W.view R.prog [48]) hk ob steps loose w := by
  intro os
  kernel_rfl
end Kh
end Lw

set_option Elab.async false
set_option linter.all false
set_option maxRecDepth 100000
set_option maxHeartbeats 0
/-! the join of law_k17_rows_of_moves (printed by genJ.py). -/
namespace Lw
open PySem PySem.Spec PyProof.Rows L2
namespace Kh
theorem all_in {α : Type} {p : α → Bool} {xs : List α} (h : xs.all p = true) : ∀ x ∈ xs, p x = true := List.all_eq_true.mp h
def lamName (x : String) : Str := Str.ofString x ++ ".<locals>." ++ "<lambda>"
def tabs (K : PySem.W.Frag) : List (Addr × Str) := [((He.cT K ("law", none)).2, lamName "law")]
section
variable {w : World} {h : Heap} {K : PySem.W.Frag} {mg : Str → Option Value} {base : Heap}
theorem in_glob {x : String} (h : x ∈ globs) : He.Fa.glo (Str.ofString x) ∈ fa := List.mem_append_left _ (List.mem_map.mpr ⟨x, h, rfl⟩)
theorem in_free {x : String} (h : x ∈ frees) : He.Fa.free (Str.ofString x) ∈ fa := List.mem_append_right _ (List.mem_append_left _ (List.mem_map.mpr ⟨x, h, rfl⟩))
theorem in_int {q : String × Int} (h : q ∈ intL) : He.Fa.int (Str.ofString q.1) q.2 ∈ fa := List.mem_append_right _ (List.mem_append_right _ (List.mem_append_left _ (List.mem_map.mpr ⟨q, h, rfl⟩)))
theorem in_str {q : String × String} (h : q ∈ strL) : He.Fa.str (Str.ofString q.1) (Str.ofString q.2) ∈ fa := List.mem_append_right _ (List.mem_append_right _ (List.mem_append_right _ (List.mem_append_left _ (List.mem_map.mpr ⟨q, h, rfl⟩))))
theorem in_mkr {x : String} (h : x ∈ mkrs) : He.Fa.mkr (Str.ofString x) ∈ fa := List.mem_append_right _ (List.mem_append_right _ (List.mem_append_right _ (List.mem_append_right _ (List.mem_append_left _ (List.mem_map.mpr ⟨x, h, rfl⟩)))))
theorem in_meth {q : String × String} (h : q ∈ methL) : He.Fa.meth (Str.ofString q.1) (Str.ofString q.2) ∈ fa := List.mem_append_right _ (List.mem_append_right _ (List.mem_append_right _ (List.mem_append_right _ (List.mem_append_right _ (List.mem_map.mpr ⟨q, h, rfl⟩)))))
theorem gs (X : K.In h) (G : h.Ns mainGlobals mg) (c : He.SaysX fa fn [] tf ex w h K) (tp : NoTP base) : Gs R.prog K mg base := by
  have fc : ∀ f ∈ fa, f.ok K = true := fun f hf => c.t.d.facts hf
  have gl : ∀ x : String, x ∈ globs → mg (Str.ofString x) = some (.ref (cAd K x)) := fun x hx => He.glo_ok X G (fc _ (in_glob hx))
  have fr : ∀ x : String, x ∈ frees → mg (Str.ofString x) = none := fun x hx => He.free_ok X G (fc _ (in_free hx))
  have hex := c.more
  unfold ex at hex
  obtain ⟨_, hex⟩ := He.ba hex
  obtain ⟨e1, hex⟩ := He.ba hex
  obtain ⟨e2, hex⟩ := He.ba hex
  obtain ⟨e3, hex⟩ := He.ba hex
  obtain ⟨e4, hex⟩ := He.ba hex
  obtain ⟨e5, hex⟩ := He.ba hex
  obtain ⟨e6, hex⟩ := He.ba hex
  obtain ⟨e7, _⟩ := He.ba hex
  obtain ⟨e7, e8⟩ := He.ba e7
  obtain ⟨e8, e9⟩ := He.ba e8
  obtain ⟨e9, e10⟩ := He.ba e9
  unfold exsB at e1
  obtain ⟨eV, e1⟩ := He.ba e1
  obtain ⟨eR, eO⟩ := He.ba e1
  have mem : ∀ x ∈ Lw.excs, x ∈ excs := fun x hx => hx
  have gx : ∀ x ∈ Lw.excs, x ∈ globs := by decide
  have cm : ∀ cn ∈ Lw.clsN, ∃ fs, (cn, fs) ∈ slots := by simp [Lw.clsN, slots]
  have cg : ∀ cn ∈ Lw.clsN, cn ∈ globs := by decide
  exact { tp := tp, c_MOST_LETTERS := He.int_ok X G (fc _ (in_int (q := ("MOST_LETTERS", 40)) (by decide))), c_MOST_SIZE := He.int_ok X G (fc _ (in_int (q := ("MOST_SIZE", 6)) (by decide))), m_ValueError := fr "ValueError" (by decide), m_bool := fr "bool" (by decide), m_enumerate := fr "enumerate" (by decide), m_int := fr "int" (by decide), m_isinstance := fr "isinstance" (by decide), m_len := fr "len" (by decide), m_list := fr "list" (by decide), m_range := fr "range" (by decide), m_repr := fr "repr" (by decide), m_reversed := fr "reversed" (by decide), m_str := fr "str" (by decide), m_tuple := fr "tuple" (by decide), m_zip := fr "zip" (by decide), t_KINDS := ⟨gl "KINDS" (by decide), tupSB_ok (all_in e9 ("KINDS", ["first", "last", "out", "in"]) (by decide))⟩, x_BadLetters := exB_ok exb_V rfl (by decide +kernel) (gl "BadLetters" (by decide)) (all_in eV "BadLetters" (by decide)), x_BadMove := exB_ok exb_V rfl (by decide +kernel) (gl "BadMove" (by decide)) (all_in eV "BadMove" (by decide)), x_BadSize := exB_ok exb_V rfl (by decide +kernel) (gl "BadSize" (by decide)) (all_in eV "BadSize" (by decide)), x_TooGreat := exB_ok exb_O rfl (by decide +kernel) (gl "TooGreat" (by decide)) (all_in eO "TooGreat" (by decide)), exA := fun cn hc => exA_ok (all_in e2 cn (mem cn hc)), isX := fun x hx cn hc => ⟨exA_ok (all_in e2 cn (mem cn hc)), of_decide_eq_true (all_in (all_in e3 x (mem x hx)) cn (mem cn hc))⟩, gX := fun x hx => gl x (gx x hx), gL := gl "LiftError" (by decide), gS := gl "Stuck" (by decide), gT := gl "TooGreat" (by decide), cat := fun cn hc => of_decide_eq_true (all_in e4 cn (mem cn hc)), isV := fun cn hc => ⟨exA_ok (all_in e2 cn (mem cn hc)), of_decide_eq_true (all_in e6 cn (mem cn hc))⟩, isL := fun cn hc => let ⟨_, h1⟩ := cm cn hc; ⟨(clsAll_is e5 _ h1 _ h1).1, (clsAll_is e5 _ h1 _ h1).2.1, fun t ht => of_decide_eq_true (all_in (all_in e10 _ h1) t ht)⟩, neO := fun cn hc => let ⟨_, h1⟩ := cm cn hc; He.eqO_ok (all_in e7 _ h1), slC := fun p hp => clsAll_clO e5 p hp, isC := fun cn hc dn hd => let ⟨_, h1⟩ := cm cn hc; let ⟨_, h2⟩ := cm dn hd; clsAll_is e5 _ h1 _ h2, isB := fun cn hc t ht => let ⟨_, h1⟩ := cm cn hc; clsAll_ty e5 _ h1 t ht, gC := fun cn hc => gl cn (cg cn hc) }
theorem walk (w : World) (h : Heap) (K : PySem.W.Frag) (mg : Str → Option Value) (base : Heap) (X : K.In h) (G : h.Ns mainGlobals mg) (c : He.SaysX fa fn [] tf ex w h K) (tp : NoTP base) (TBs : ∀ p ∈ tf.map (He.cT K), LamX.TabB base mg p.1 p.2) : FnG R.prog w K mg base (tabs K) 11 (cAd K "law") 1 f_law := by
  have g := gs X G c tp
  have fc : ∀ f ∈ fa, f.ok K = true := fun f hf => c.t.d.facts hf
  have gl : ∀ x : String, x ∈ globs → mg (Str.ofString x) = some (.ref (cAd K x)) := fun x hx => He.glo_ok X G (fc _ (in_glob hx))
  have df : ∀ p ∈ defs, ∃ fd, FunD K (Str.ofString p.2) (Str.ofString p.2) (defArgs (top p.1)) (defBody (top p.1)) (defScope (top p.1)) [] [] (cAd K p.2) fd := fun p hp => c.t.d.defs (d := dd p) (List.mem_append_left _ (List.mem_map.mpr ⟨p, hp, rfl⟩))
  have dm : ∀ p ∈ meths, ∃ fd, FunD K (Str.ofString p.2.2.2) (Str.ofString (p.2.2.1 ++ "." ++ p.2.2.2)) (defArgs (cls1 (top p.1) p.2.1)) (defBody (cls1 (top p.1) p.2.1)) (defScope (cls1 (top p.1) p.2.1)) [] [] (He.ma K (cAd K p.2.2.1) (Str.ofString p.2.2.2)) fd := fun p hp => c.t.d.defs (d := md p) (List.mem_append_right _ (List.mem_map.mpr ⟨p, hp, rfl⟩))
  obtain ⟨_, d__law_folded⟩ := df (36, "_law_folded") (by decide)
  have o__law_folded := ok__law_folded (w := w) (T := tabs K) g d__law_folded
  obtain ⟨_, d__law_begun⟩ := df (38, "_law_begun") (by decide)
  have o__law_begun := ok__law_begun (w := w) (T := tabs K) g d__law_begun o__law_folded (gl "_law_folded" (by decide)) d__law_folded.kp
  have F__law_begun : FnM R.prog w K mg base (tabs K) 2 "_law_begun" 1 f__law_begun := ⟨⟨_, gl "_law_begun" (by decide), d__law_begun.kp, o__law_begun⟩⟩
  obtain ⟨_, d__law_mixed⟩ := df (35, "_law_mixed") (by decide)
  have o__law_mixed := ok__law_mixed (w := w) (T := tabs K) g d__law_mixed 
  have F__law_mixed : FnM R.prog w K mg base (tabs K) 1 "_law_mixed" 2 f__law_mixed := ⟨⟨_, gl "_law_mixed" (by decide), d__law_mixed.kp, o__law_mixed⟩⟩
  obtain ⟨_, d__law_draw⟩ := df (37, "_law_draw") (by decide)
  have o__law_draw := ok__law_draw (w := w) (T := tabs K) g d__law_draw F__law_mixed
  have F__law_draw : FnM R.prog w K mg base (tabs K) 2 "_law_draw" 2 f__law_draw := ⟨⟨_, gl "_law_draw" (by decide), d__law_draw.kp, o__law_draw⟩⟩
  obtain ⟨_, d__law_size⟩ := df (39, "_law_size") (by decide)
  have o__law_size := ok__law_size (w := w) (T := tabs K) g d__law_size F__law_draw
  have F__law_size : FnM R.prog w K mg base (tabs K) 3 "_law_size" 1 f__law_size := ⟨⟨_, gl "_law_size" (by decide), d__law_size.kp, o__law_size⟩⟩
  obtain ⟨_, d__law_letters⟩ := df (40, "_law_letters") (by decide)
  have o__law_letters := ok__law_letters (w := w) (T := tabs K) g d__law_letters F__law_draw
  have F__law_letters : FnM R.prog w K mg base (tabs K) 3 "_law_letters" 3 f__law_letters := ⟨⟨_, gl "_law_letters" (by decide), d__law_letters.kp, o__law_letters⟩⟩
  obtain ⟨_, d_is_whole⟩ := df (19, "is_whole") (by decide)
  have o_is_whole := ok_is_whole (w := w) (T := tabs K) g d_is_whole 
  have F_is_whole : FnM R.prog w K mg base (tabs K) 1 "is_whole" 1 f_is_whole := ⟨⟨_, gl "is_whole" (by decide), d_is_whole.kp, o_is_whole⟩⟩
  obtain ⟨_, d_is_among⟩ := df (20, "is_among") (by decide)
  have o_is_among := ok_is_among (w := w) (T := tabs K) g d_is_among F_is_whole
  have F_is_among : FnM R.prog w K mg base (tabs K) 2 "is_among" 3 f_is_among := ⟨⟨_, gl "is_among" (by decide), d_is_among.kp, o_is_among⟩⟩
  obtain ⟨_, d_need_size⟩ := df (22, "need_size") (by decide)
  have o_need_size := ok_need_size (w := w) (T := tabs K) g d_need_size F_is_among
  have F_need_size : FnM R.prog w K mg base (tabs K) 3 "need_size" 1 f_need_size := ⟨⟨_, gl "need_size" (by decide), d_need_size.kp, o_need_size⟩⟩
  obtain ⟨_, d_is_row⟩ := df (21, "is_row") (by decide)
  have o_is_row := ok_is_row (w := w) (T := tabs K) g d_is_row 
  have F_is_row : FnM R.prog w K mg base (tabs K) 1 "is_row" 1 f_is_row := ⟨⟨_, gl "is_row" (by decide), d_is_row.kp, o_is_row⟩⟩
  obtain ⟨_, d_Word___init__⟩ := dm (24, 1, "Word", "__init__") (by decide)
  have o_Word___init__ := ok_Word___init__ (w := w) (T := tabs K) g d_Word___init__ F_is_among F_is_row F_need_size
  have F_Word___init__ : MkM R.prog w K mg base (tabs K) 4 "Word" 2 f_Word___init__ := ⟨⟨_, gl "Word" (by decide), He.mkr_ok (fc _ (in_mkr (x := "Word") (by decide))), o_Word___init__⟩, fun xs ds d ds' h => fnI_ob xs ds d ds' h⟩
  obtain ⟨_, d__law_formed⟩ := df (44, "_law_formed") (by decide)
  have o__law_formed := ok__law_formed (w := w) (T := tabs K) g d__law_formed 
  have F__law_formed : FnM R.prog w K mg base (tabs K) 1 "_law_formed" 1 f__law_formed := ⟨⟨_, gl "_law_formed" (by decide), d__law_formed.kp, o__law_formed⟩⟩
  obtain ⟨_, d__law_moved⟩ := df (45, "_law_moved") (by decide)
  have o__law_moved := ok__law_moved (w := w) (T := tabs K) g d__law_moved F__law_formed
  have F__law_moved : FnM R.prog w K mg base (tabs K) 2 "_law_moved" 3 f__law_moved := ⟨⟨_, gl "_law_moved" (by decide), d__law_moved.kp, o__law_moved⟩⟩
  obtain ⟨_, d__law_moves⟩ := df (46, "_law_moves") (by decide)
  have o__law_moves := ok__law_moves (w := w) (T := tabs K) g d__law_moves F__law_draw F__law_moved
  have F__law_moves : FnM R.prog w K mg base (tabs K) 3 "_law_moves" 4 f__law_moves := ⟨⟨_, gl "_law_moves" (by decide), d__law_moves.kp, o__law_moves⟩⟩
  obtain ⟨_, d_fall⟩ := df (27, "fall") (by decide)
  have o_fall := ok_fall (w := w) (T := tabs K) g d_fall 
  have F_fall : FnM R.prog w K mg base (tabs K) 1 "fall" 1 f_fall := ⟨⟨_, gl "fall" (by decide), d_fall.kp, o_fall⟩⟩
  obtain ⟨_, d_made⟩ := df (30, "made") (by decide)
  have o_made := ok_made (w := w) (T := tabs K) g d_made F_Word___init__ F_fall
  have F_made : FnM R.prog w K mg base (tabs K) 6 "made" 2 f_made := ⟨⟨_, gl "made" (by decide), d_made.kp, o_made⟩⟩
  obtain ⟨_, d_is_formed⟩ := df (28, "is_formed") (by decide)
  have o_is_formed := ok_is_formed (w := w) (T := tabs K) g d_is_formed F_is_among
  have F_is_formed : FnM R.prog w K mg base (tabs K) 3 "is_formed" 1 f_is_formed := ⟨⟨_, gl "is_formed" (by decide), d_is_formed.kp, o_is_formed⟩⟩
  obtain ⟨_, d_can_move⟩ := df (29, "can_move") (by decide)
  have o_can_move := ok_can_move (w := w) (T := tabs K) g d_can_move F_fall
  have F_can_move : FnM R.prog w K mg base (tabs K) 2 "can_move" 2 f_can_move := ⟨⟨_, gl "can_move" (by decide), d_can_move.kp, o_can_move⟩⟩
  obtain ⟨_, d_moved_at⟩ := df (31, "moved_at") (by decide)
  have o_moved_at := ok_moved_at (w := w) (T := tabs K) g d_moved_at F_can_move F_is_formed F_made
  have F_moved_at : FnM R.prog w K mg base (tabs K) 7 "moved_at" 3 f_moved_at := ⟨⟨_, gl "moved_at" (by decide), d_moved_at.kp, o_moved_at⟩⟩
  obtain ⟨_, d_walked⟩ := df (32, "walked") (by decide)
  have o_walked := ok_walked (w := w) (T := tabs K) g d_walked F_is_row F_moved_at
  have F_walked : FnM R.prog w K mg base (tabs K) 8 "walked" 2 f_walked := ⟨⟨_, gl "walked" (by decide), d_walked.kp, o_walked⟩⟩
  obtain ⟨_, d_returned⟩ := df (33, "returned") (by decide)
  have o_returned := ok_returned (w := w) (T := tabs K) g d_returned 
  have F_returned : FnM R.prog w K mg base (tabs K) 1 "returned" 1 f_returned := ⟨⟨_, gl "returned" (by decide), d_returned.kp, o_returned⟩⟩
  obtain ⟨_, d_Word___eq__⟩ := dm (24, 5, "Word", "__eq__") (by decide)
  have o_Word___eq__ := ok_Word___eq__ (w := w) (T := tabs K) g d_Word___eq__ 
  have F_Word___eq__ : EqM R.prog w K mg base (tabs K) 1 "Word" f_Word___eq__ := ⟨⟨_, (g.isC "Word" (by decide) "Word" (by decide)).2.1, He.meth_ok (fc _ (in_meth (q := ("Word", "__eq__")) (by decide))), g.neO "Word" (by decide), o_Word___eq__⟩⟩
  obtain ⟨_, d__law_like⟩ := df (43, "_law_like") (by decide)
  have o__law_like := ok__law_like (w := w) (T := tabs K) g d__law_like 
  have F__law_like : FnM R.prog w K mg base (tabs K) 1 "_law_like" 2 f__law_like := ⟨⟨_, gl "_law_like" (by decide), d__law_like.kp, o__law_like⟩⟩
  obtain ⟨_, d__law_stopped⟩ := df (47, "_law_stopped") (by decide)
  have o__law_stopped := ok__law_stopped (w := w) (T := tabs K) g d__law_stopped F__law_moved
  have F__law_stopped : FnM R.prog w K mg base (tabs K) 3 "_law_stopped" 3 f__law_stopped := ⟨⟨_, gl "_law_stopped" (by decide), d__law_stopped.kp, o__law_stopped⟩⟩
  obtain ⟨_, d__law_heard⟩ := df (42, "_law_heard") (by decide)
  have H__law_heard := ok__law_heard (w := w) (T := tabs K) g d__law_heard  (gl "_law_heard" (by decide))
  obtain ⟨_, d__law_is_word⟩ := df (41, "_law_is_word") (by decide)
  have o__law_is_word := ok__law_is_word (w := w) (T := tabs K) g d__law_is_word 
  have F__law_is_word : FnM R.prog w K mg base (tabs K) 1 "_law_is_word" 3 f__law_is_word := ⟨⟨_, gl "_law_is_word" (by decide), d__law_is_word.kp, o__law_is_word⟩⟩
  obtain ⟨_, d_law⟩ := df (48, "law") (by decide)
  have o_law := ok_law (w := w) (T := tabs K) g d_law F_Word___eq__ F_Word___init__ F__law_begun F__law_draw H__law_heard F__law_is_word F__law_letters F__law_like F__law_moves F__law_size F__law_stopped F_returned F_walked (cc := (He.cT K ("law", none)).1) (P0 := (He.cT K ("law", none)).2) (TBs _ (List.mem_map.mpr ⟨("law", none), by decide, rfl⟩)) (by
    intro cdv ⟨oc, od, osl, kV, doc, pm, an, ct, dV, lk⟩
    obtain ⟨oc', od', dV', kV', doc', pm', an', cdv', ct', osl', e, lk', hcd, _⟩ := d_law.ex
    rw [lk] at lk'
    cases e
    cases lk'
    obtain ⟨cc, rfl⟩ := He.codeIn_ref hcd
    exact congrArg Value.ref (He.codeOf_eq (p := ("law", none)) lk rfl).symm) (by simp [tabs, lamName]) (by
    intro p hp _
    simp only [tabs, List.mem_cons, List.not_mem_nil, or_false] at hp
    subst hp
    rfl)
  exact o_law
end
end Kh
end Lw
open PySem PySem.W PySem.Calls PyProof.Rows
theorem PySem.Challenge.cw_liftwords_k17_rows_of_moves_holds : PySem.Challenge.rw_liftwords_k17_rows_of_moves.Holds := by
  w_on; o_law
  refine HandSHeadRun.head_any (r := Lw.Kh.R) (q := PySem.W.view Lw.Kh.R.prog [48]) (H := Lw.Kh.hk) (ob := Lw.Kh.ob) (M := Lw.Kh.steps) (loose := Lw.Kh.loose) (kwd := []) Lw.Kh.ob_eq (by kernel_rfl) (fun s => by kernel_rfl) Lw.Kh.run (by rfl) (by rfl) (by rfl) (by rfl) (by first | assumption | decide +kernel) (by decide +kernel) ⟨rfl, rfl, rfl, rfl, rfl, by decide +kernel⟩ ?hw ?hc
  case hw => w_witness2
  case hc =>
    refine Att.attach_callB (l := PySem.Challenge.rw_liftwords_k17_rows_of_moves) (n := 63) rfl rfl fun w s₀ s₁ mg mb fa o pm cd doc a vs ns G Y ho hd hcd hmg hobj hints hlen hbits hg => ?_
    obtain ⟨⟨K, KX, c⟩, sm, tp⟩ := Y
    obtain ⟨ds, hm⟩ := Lw.law_ok ns
    have hla : mg "law" = some (.ref (Lw.cAd K "law")) := He.glo_ok (x := "law") KX G.T.g (c.t.d.facts (Lw.Kh.in_glob (x := "law") (by decide)))
    have efa : fa = Lw.cAd K "law" := by
      have hmg : mg "law" = some (.ref fa) := hmg
      rw [hla] at hmg
      cases hmg
      rfl
    rw [efa]
    refine Lw.law_call (cs := Lw.Kh.tf.map (He.cT K)) (T := Lw.Kh.tabs K) (k := 11) (fm := Lw.f_law) KX G.T.g G.T.b G.T.builtins G.T.nolimit hg sm tp (Lw.isNone_eq (He.ba c.more).1) ?_ ?_ ?_ ?_ G.T.bmain hobj hints (Nat.le_trans hlen (by rw [sizeLine_eq]; decide)) ⟨rfl, by decide, by decide⟩ (fun base hK hN tpb TBs => Lw.Kh.walk w _ K mg base KX G.T.g c tpb TBs) hm
    · intro p hp
      obtain ⟨q, hq, rfl⟩ := List.mem_map.mp hp
      exact c.empty q hq
    · intro p hp
      obtain ⟨q, hq, rfl⟩ := List.mem_map.mp hp
      exact c.out q hq
    · intro p hp
      obtain ⟨q, hq, rfl⟩ := List.mem_map.mp hp
      exact PySem.W.codeHd_of_K KX (c.hd q hq)
    · intro p hp
      simp only [Lw.Kh.tabs, List.mem_cons, List.not_mem_nil, or_false] at hp
      subst hp
      exact List.mem_map.mpr ⟨_, List.mem_map.mpr ⟨("law", none), by decide, rfl⟩, rfl⟩

