import PyProof.Rows.All
import Wide.All
import OpenK.AllK
import Wide.FinOn
import KE.DataEq
import HandS.ForMost
import HandS.TupAny
import HandS.TupMul
import HandS.TupLe
import HandS.Exc
import HandS.ExcOwn
import HandS.WordsExc
import HandS.SortOrd
import HandS.Conv
import HandS.EndBits
import KE.LtData
import KE.SortKeyed
import KE.LtSeq
import HandS.WordsDict
import HandS.TupLen
import KE.SortCalls
import KE.DataCmp
import KE.KTupSum
import HandS.IsInst
import HandS.Style
import KE.DataFind
import KE.KExcSuper
import HandS.TryMany
import HandS.TryOnly
import HandS.ExcField
import HandS.Words
import HandS.Ends
import KE.RegKSuper
import PySem.Challenge.RW_weightkeepers_k16_whole_macwilliams_iden
set_option Elab.async false
set_option linter.all false
set_option maxRecDepth 100000
/-! Mp: a small evaluator over plain data for the part of Python that the program uses. Part 1: data, how the heap bears it, the evaluator. -/
namespace Mp
open PySem

/-- plain data: lists and dicts by their contents; st: the law's own drawn list (kept in a register) -/
inductive D where
  | non | bl (b : Bool) | int (i : Int) | str (s : Str)
  | tup (xs : List D) | lst (xs : List D) | scr (xs : List D) | ktp (xs : List D)
  | dic (t : Bool) (ks vs : List D)
  | obj (c : Nat) (fs : List D)
  | st
deriving Inhabited

/-- the register -/
abbrev Rg := Option (List D)
inductive Res (α : Type) where
  | ok (a : α) (rs : Rg)
  | exc (c : Nat) (d : D) (rs : Rg)
  | stuck

/-- numbers in a row -/
def dI (ns : List Int) : List D := ns.map D.int
def tI (ns : List Int) : D := .tup (dI ns)

/-! ### to the library's data -/
mutual
def D.py : D → Option PyData
  | .non => some .none
  | .bl b => some (.bool b)
  | .int i => some (.int i)
  | .str s => some (.str s)
  | .tup xs => match D.pys xs with | some l => some (.tuple l) | none => none
  | .lst xs => match D.pys xs with | some l => some (.list l) | none => none
  | .scr _ => none
  | .ktp _ => none
  | .dic _ _ _ => none
  | .obj _ _ => none
  | .st => none
def D.pys : List D → Option (List PyData)
  | [] => some []
  | x :: r => match D.py x with
    | some a => (match D.pys r with | some l => some (a :: l) | none => none)
    | none => none
end
/-- ==, for data without objects and dicts, at most 60 deep -/
def D.eq (x y : D) : Option Bool :=
  match x.py, y.py with
  | some a, some b => if a.depth ≤ 60 ∧ b.depth ≤ 60 then some (PyData.eqv a b) else none
  | _, _ => none

/-! ### how the heap bears it -/
section
open L2
def kD : Key → D
  | .inl i => .int i
  | .inr s => .str s
def kDs (l : List Key) : D := .tup (l.map kD)
variable (K : PySem.W.Frag) (cn : Nat → Option (Addr × List Str)) (sa : Addr) (H : Hp)
mutual
def Rp : D → V → Prop
  | .non, v => v = .non
  | .bl b, v => v = .bl b
  | .int i, v => v = .int i
  | .str s, v => v = .str s
  | .tup ds, v => ∃ a vs, v = .ref a ∧ H a = some (.tup vs) ∧ Rps ds vs
  | .lst ds, v => ∃ a vs, v = .ref a ∧ H a = some (.lst vs) ∧ Rps ds vs
  | .scr ds, v => ∃ a vs, v = .ref a ∧ SqL K H a vs ∧ Rps ds vs
  | .ktp ds, v => ∃ a vs, v = .ref a ∧ SqT K H a vs ∧ Rps ds vs
  | .dic false ks ds, v => ∃ (a : Addr) (kk : List Key) (vs : List V), v = .ref a ∧ H a = some (.dK (kk.zip vs)) ∧ kk.length = vs.length ∧ ks = kk.map kD ∧ Rps ds vs
  | .dic true ks ds, v => ∃ (a : Addr) (kk : List (List Key)) (vs : List V), v = .ref a ∧ H a = some (.dT (kk.zip vs)) ∧ kk.length = vs.length ∧ ks = kk.map kDs ∧ Rps ds vs
  | .obj c fs, v => ∃ (a C dx : Addr) (ns : List Str) (vs : List V), v = .ref a ∧ cn c = some (C, ns) ∧ H a = some (.ins C dx (ns.zip vs)) ∧ ns.length = vs.length ∧ Rps fs vs
  | .st, v => v = .ref sa
def Rps : List D → List V → Prop
  | [], vs => vs = []
  | d :: ds, vs => ∃ v r, vs = v :: r ∧ Rp d v ∧ Rps ds r
end
end

section
open L2
variable {K : PySem.W.Frag} {cn : Nat → Option (Addr × List Str)} {sa : Addr} {H H' Hs Hs' : Hp}
theorem sqT_mono {a : Addr} {xs : List V} (e : Same H H') (h : SqT K H a xs) : SqT K H' a xs := by
  rcases h with (h | ⟨o, h⟩) | h
  · exact .inl (.inl (e _ _ h))
  · exact .inl (.inr ⟨o, e _ _ h⟩)
  · exact .inr h
mutual
theorem Rp.mono (e : Same H H') : ∀ (d : D) (v : V), Rp K cn sa H d v → Rp K cn sa H' d v
  | .non, _, h => h
  | .bl _, _, h => h
  | .int _, _, h => h
  | .str _, _, h => h
  | .tup ds, _, ⟨a, vs, h1, h2, h3⟩ => ⟨a, vs, h1, e _ _ h2, Rps.mono e ds vs h3⟩
  | .lst ds, _, ⟨a, vs, h1, h2, h3⟩ => ⟨a, vs, h1, e _ _ h2, Rps.mono e ds vs h3⟩
  | .scr ds, _, ⟨a, vs, h1, h2, h3⟩ => ⟨a, vs, h1, e.seq h2, Rps.mono e ds vs h3⟩
  | .ktp ds, _, ⟨a, vs, h1, h2, h3⟩ => ⟨a, vs, h1, sqT_mono e h2, Rps.mono e ds vs h3⟩
  | .dic false ks ds, _, ⟨a, kk, vs, h1, h2, h3, h4, h5⟩ => ⟨a, kk, vs, h1, e _ _ h2, h3, h4, Rps.mono e ds vs h5⟩
  | .dic true ks ds, _, ⟨a, kk, vs, h1, h2, h3, h4, h5⟩ => ⟨a, kk, vs, h1, e _ _ h2, h3, h4, Rps.mono e ds vs h5⟩
  | .obj c fs, _, ⟨a, C, dx, ns, vs, h1, h2, h3, h4, h5⟩ => ⟨a, C, dx, ns, vs, h1, h2, e _ _ h3, h4, Rps.mono e fs vs h5⟩
  | .st, _, h => h
theorem Rps.mono (e : Same H H') : ∀ (ds : List D) (vs : List V), Rps K cn sa H ds vs → Rps K cn sa H' ds vs
  | [], _, h => h
  | d :: ds, _, ⟨v, r, h1, h2, h3⟩ => ⟨v, r, h1, Rp.mono e d v h2, Rps.mono e ds r h3⟩
end
theorem Rps.length : ∀ {ds : List D} {vs : List V}, Rps K cn sa H ds vs → ds.length = vs.length
  | [], _, h => by cases h; rfl
  | d :: ds, _, ⟨v, r, h1, h2, h3⟩ => by subst h1; simp [Rps.length h3]
theorem Rps.get : ∀ {ds : List D} {vs : List V} {i : Nat} {d : D}, Rps K cn sa H ds vs → ds[i]? = some d → ∃ v, vs[i]? = some v ∧ Rp K cn sa H d v
  | [], _, _, _, h, e => by simp at e
  | d :: ds, _, 0, _, ⟨v, r, h1, h2, h3⟩, e => by subst h1; simp at e; subst e; exact ⟨v, rfl, h2⟩
  | d :: ds, _, i + 1, _, ⟨v, r, h1, h2, h3⟩, e => by subst h1; simpa using Rps.get h3 (by simpa using e)
theorem Rps.getV : ∀ {ds : List D} {vs : List V} {i : Nat} {v : V}, Rps K cn sa H ds vs → vs[i]? = some v → ∃ d, ds[i]? = some d ∧ Rp K cn sa H d v
  | [], _, _, _, h, e => by cases h; simp at e
  | d :: ds, _, 0, _, ⟨v, r, h1, h2, h3⟩, e => by subst h1; simp at e; subst e; exact ⟨d, rfl, h2⟩
  | d :: ds, _, i + 1, _, ⟨v, r, h1, h2, h3⟩, e => by subst h1; simpa using Rps.getV h3 (by simpa using e)
theorem Rps.append : ∀ {ds es : List D} {vs ws : List V}, Rps K cn sa H ds vs → Rps K cn sa H es ws → Rps K cn sa H (ds ++ es) (vs ++ ws)
  | [], _, _, _, h, h' => by cases h; exact h'
  | d :: ds, _, _, _, ⟨v, r, h1, h2, h3⟩, h' => by subst h1; exact ⟨v, r ++ _, rfl, h2, Rps.append h3 h'⟩
theorem Rps.one {d : D} {v : V} (h : Rp K cn sa H d v) : Rps K cn sa H [d] [v] := ⟨v, [], rfl, h, rfl⟩
theorem Rps.take : ∀ {ds : List D} {vs : List V} (n : Nat), Rps K cn sa H ds vs → Rps K cn sa H (ds.take n) (vs.take n)
  | _, _, 0, _ => by simp [Rps]
  | [], _, n + 1, h => by cases h; simp [Rps]
  | d :: ds, _, n + 1, ⟨v, r, h1, h2, h3⟩ => by subst h1; exact ⟨v, r.take n, rfl, h2, Rps.take n h3⟩
theorem Rps.drop : ∀ {ds : List D} {vs : List V} (n : Nat), Rps K cn sa H ds vs → Rps K cn sa H (ds.drop n) (vs.drop n)
  | _, _, 0, h => h
  | [], _, n + 1, h => by cases h; simp [Rps]
  | d :: ds, _, n + 1, ⟨v, r, h1, h2, h3⟩ => by subst h1; exact Rps.drop n h3
theorem Rps.set {d : D} {v : V} (h : Rp K cn sa H d v) : ∀ {ds : List D} {vs : List V} (i : Nat), Rps K cn sa H ds vs → Rps K cn sa H (ds.set i d) (vs.set i v)
  | [], _, _, h' => by cases h'; simp [Rps]
  | _ :: ds, _, 0, ⟨w, r, h1, h2, h3⟩ => by subst h1; exact ⟨v, r, rfl, h, h3⟩
  | e :: ds, _, i + 1, ⟨w, r, h1, h2, h3⟩ => by subst h1; exact ⟨w, r.set i v, rfl, h2, Rps.set h i h3⟩
theorem Rps.ints_iff : ∀ {ns : List Int} {vs : List V}, Rps K cn sa H (dI ns) vs ↔ vs = ns.map V.int
  | [], vs => Iff.rfl
  | n :: ns, vs => by
    constructor
    · rintro ⟨v, r, rfl, rfl, h3⟩
      have := (Rps.ints_iff (ns := ns)).mp h3
      simp [this]
    · rintro rfl
      exact ⟨_, _, rfl, rfl, (Rps.ints_iff (ns := ns)).mpr rfl⟩

/-! ### to the library's own words for data -/
mutual
theorem Rp.dp : ∀ (d : D) (v : V) (p : PyData), Rp K cn sa H d v → d.py = some p → Dp K H v p
  | .non, _, _, h, e => by cases h; cases e; exact .non
  | .bl b, _, _, h, e => by cases h; cases e; exact .bl b
  | .int i, _, _, h, e => by cases h; cases e; exact .int i
  | .str s, _, _, h, e => by cases h; cases e; exact .str s
  | .tup ds, _, p, ⟨a, vs, h1, h2, h3⟩, e => by
    simp only [D.py] at e
    split at e
    · rename_i l hl
      cases e
      subst h1
      exact .tup (SqT.of h2) (Rps.dp ds vs l h3 hl)
    · cases e
  | .lst ds, _, p, ⟨a, vs, h1, h2, h3⟩, e => by
    simp only [D.py] at e
    split at e
    · rename_i l hl
      cases e
      subst h1
      exact .lst (SqL.of h2) (Rps.dp ds vs l h3 hl)
    · cases e
  | .scr _, _, _, _, e => by cases e
  | .ktp _, _, _, _, e => by cases e
  | .dic _ _ _, _, _, _, e => by cases e
  | .obj _ _, _, _, _, e => by cases e
  | .st, _, _, _, e => by cases e
theorem Rps.dp : ∀ (ds : List D) (vs : List V) (l : List PyData), Rps K cn sa H ds vs → D.pys ds = some l → DpAll K H vs l
  | [], _, _, h, e => by cases h; cases e; exact .nil
  | d :: ds, _, l, ⟨v, r, h1, h2, h3⟩, e => by
    subst h1
    simp only [D.pys] at e
    split at e
    · rename_i a ha
      split at e
      · rename_i l' hl
        cases e
        exact .cons (Rp.dp d v a h2 ha) (Rps.dp ds r l' h3 hl)
      · cases e
    · cases e
end
end

end Mp

set_option Elab.async false
set_option linter.all false
set_option maxRecDepth 100000
/-! Mp, part 2: the small language and its evaluator. -/
namespace Mp
open PySem

inductive Bop where | add | sub | mul | fdiv | mod | pow
deriving DecidableEq
inductive Cop where | lt | le | gt | ge | eq | ne | is | isn | in_ | nin
deriving DecidableEq
/-- built-in functions and types by name -/
inductive Bi where
  | len | abs | int | str | sum | tuple | list | sorted | min | max | all | any | ord
deriving DecidableEq
/-- what isinstance asks for -/
inductive Ty where | int | bool | tuple | list | str | cls (c : Nat)
deriving DecidableEq

mutual
inductive E where
  | slot (i : Nat)
  | knon | kbl (b : Bool) | kint (i : Int) | kstr (s : Str)
  | con (g : Nat)
  | bin (op : Bop) (a b : E)
  | neg (a : E)
  | cmp (op : Cop) (a b : E)
  | chain (op op' : Cop) (a b c : E)
  | and (a b : E) | or (a b : E) | not (a : E)
  | ife (c a b : E)
  | tup (es : Es)
  | lst (es : Es)
  | ix (o i : E)
  | sl (o lo hi : E)
  | slr (o : E)
  | absent
  | call (f : Nat) (es : Es)
  | bi (b : Bi) (es : Es)
  | isi (a : E) (ts : List Ty)
  | comp (el : E) (xs : List Nat) (it : It) (cs : Es)
  | comp2 (el : E) (x : Nat) (it : It) (y : Nat) (it2 : It)
  | compK (el : E) (xs : List Nat) (i : Nat) (cs : Es)
  | join (s l : E)
  | find (o x : E)
  | rpop (o i : E)
  | fld (o : E) (c f : Nat)
  | meth (c f : Nat) (o : E) (es : Es)
  | make (c f : Nat) (es : Es)
  | oeq (c f : Nat) (a b : E)
  | ostr (c f : Nat) (a : E)
  | isc (a : E) (c : Nat)
  | dnew (t : Bool)
  | ddisp (k v : E)
inductive Es where
  | nil | cons (e : E) (r : Es)
inductive It where
  | rng1 (a : E) | rng2 (a b : E) | rng3 (a b c : E) | seq (a : E)
end

/-- error classes of the program by number: name, field, what is over what -/
def xnm : Nat → Str
  | 0 => "Fault" | 1 => "Malformed" | 2 => "Refused" | _ => "NoText"
def xfd : Nat → Option Str
  | 2 => some "reason" | 3 => some "at" | _ => none
def xsub (c x : Nat) : Bool := decide (c = x) || decide (x = 0)
/-- what a suite may tell of the error that it holds: its field (of the class c), constants, pairs, the field == a text -/
inductive XE where
  | fld (c : Nat) | str (s : Str) | int (i : Int) | bl (b : Bool) | pair (a b : XE) | eqs (c : Nat) (s : Str)
/-- suites: return x; l.append(x); i = i + n -/
inductive Su where
  | ret (x : XE) | app (i : Nat) (x : XE) | inc (i : Nat) (n : Int)
structure Hd where
  c : Nat
  i : Option Nat
  su : Su
mutual
inductive S where
  | set (i : Nat) (e : E)
  | own (i : Nat) (e : E)
  | un (is : List Nat) (e : E)
  | swap (i j : Nat) (a b : E)
  | aug (i : Nat) (op : Bop) (e : E)
  | put (i : Nat) (k e : E)
  | augIx (i : Nat) (k : E) (op : Bop) (e : E)
  | app (i : Nat) (e : E)
  | ext (i : Nat) (e : E)
  | pop (i : Nat)
  | appPop (i j : Nat) (e : E)
  | setPop (i j : Nat) (e : E)
  | rem (i : Nat) (e : E)
  | mov (i j : Nat)
  | frz (i : Nat)
  | drop (e : E)
  | ret (e : E)
  | ret0
  | if_ (c : E) (a b : Ss)
  | while_ (c : E) (b : Ss)
  | for_ (xs : List Nat) (it : It) (b : Ss)
  | brk | cont | pass
  | raise (c : Nat) (e : E)
  | try_ (b : Ss) (hs : List Hd)
  | never
inductive Ss where
  | nil | cons (s : S) (r : Ss)
end

/-! ### the monad -/
def M (α : Type) := Rg → Res α
def M.ok {α : Type} (a : α) : M α := fun rs => .ok a rs
def M.stuck {α : Type} : M α := fun _ => .stuck
def M.exc {α : Type} (c : Nat) (d : D) : M α := fun rs => .exc c d rs
def M.bind {α β : Type} (m : M α) (f : α → M β) : M β := fun rs =>
  match m rs with
  | .ok a rs' => f a rs'
  | .exc c d rs' => .exc c d rs'
  | .stuck => .stuck
/-- exceptions become stuck -/
def M.nox {α : Type} (m : M α) : M α := fun rs =>
  match m rs with
  | .ok a rs' => .ok a rs'
  | .exc _ _ _ => .stuck
  | .stuck => .stuck
def M.opt {α : Type} : Option α → M α
  | some a => .ok a
  | none => .stuck

/-! ### values of slots -/
inductive SV where
  | d (x : D) | ol (xs : List D) | od (t : Bool) (ks vs : List D)
abbrev Env := List (Option SV)
def SV.isOwnB : SV → Bool
  | .d _ => false
  | _ => true

def lim : Nat := 16777216
def small (i : Int) : Bool := decide (-(2 ^ 64) < i ∧ i < 2 ^ 64)

def evalBin (op : Bop) (x y : D) : Option D :=
  match op, x, y with
  | .add, .int i, .int j => some (.int (i + j))
  | .add, .tup a, .tup b => if a.length + b.length ≤ lim then some (.tup (a ++ b)) else none
  | .add, .lst a, .lst b => if a.length + b.length ≤ lim then some (.lst (a ++ b)) else none
  | .add, .str a, .str b => if a.length + b.length ≤ lim then some (.str (a ++ b)) else none
  | .sub, .int i, .int j => some (.int (i - j))
  | .mul, .int i, .int j => if small i || small j then some (.int (i * j)) else none
  | .mul, .tup a, .int k => if 0 ≤ k ∧ k ≤ 1000 ∧ a.length ≤ 1000 then some (.tup (List.replicate k.toNat a).flatten) else none
  | .mul, .lst a, .int k => if 0 ≤ k ∧ k ≤ 1000 ∧ a.length ≤ 1000 then some (.lst (List.replicate k.toNat a).flatten) else none
  | .fdiv, .int i, .int j => if j ≠ 0 ∧ j.natAbs < 1073741824 then some (.int (i.fdiv j)) else none
  | .mod, .int i, .int j => if j ≠ 0 then some (.int (i.fmod j)) else none
  | .pow, .int i, .int j => if 0 ≤ j ∧ j ≤ 1000000 ∧ i.natAbs < 2 ^ 64 then some (.int (i ^ j.toNat)) else none
  | _, _, _ => none

def keyFlat : List D → Bool
  | [] => true
  | .int _ :: r => keyFlat r
  | .str _ :: r => keyFlat r
  | _ :: _ => false
def keyOk (t : Bool) (k : D) : Bool :=
  match t, k with
  | true, .tup xs => keyFlat xs
  | false, .int _ => true
  | false, .str _ => true
  | _, _ => false
/-- x in xs -/
def inD (x : D) (xs : List D) : Option Bool :=
  match x.py, D.pys xs with
  | some a, some l => if a.depth ≤ 60 ∧ PyData.depthAll l ≤ 60 then some (l.any fun z => PyData.eqv z a) else none
  | _, _ => none

/-! ### the order of data: ints, tuples of them, nested -/
mutual
def ltP : PyData → PyData → Option Bool
  | .int i, .int j => some (decide (i < j))
  | .tuple xs, .tuple ys => ltPs xs ys
  | _, _ => none
/-- the first pair that differs decides; all pairs can be compared -/
def ltPs : List PyData → List PyData → Option Bool
  | [], [] => some false
  | [], _ :: _ => some true
  | _ :: _, [] => some false
  | x :: xs, y :: ys =>
    match ltPs xs ys with
    | some t => if PyData.eqv x y then some t else ltP x y
    | none => none
end
def D.lt (x y : D) : Option Bool :=
  match x.py, y.py with
  | some a, some b => if a.depth ≤ 60 ∧ b.depth ≤ 60 then ltP a b else none
  | _, _ => none

def D.isNon : D → Bool
  | .non => true
  | _ => false
def evalCmp (op : Cop) (x y : D) : Option Bool :=
  match op with
  | .lt => D.lt x y
  | .le => (match x, y with | .int i, .int j => some (decide (i ≤ j)) | _, _ => none)
  | .gt => (match x, y with | .int i, .int j => some (decide (j < i)) | _, _ => none)
  | .ge => (match x, y with | .int i, .int j => some (decide (j ≤ i)) | _, _ => none)
  | .eq => D.eq x y
  | .ne => (D.eq x y).map (!·)
  | .is => (match y with
    | .non => some x.isNon
    | .bl b => (match x with | .bl a => some (decide (a = b)) | _ => none)
    | _ => none)
  | .isn => (match y with
    | .non => some (!x.isNon)
    | .bl b => (match x with | .bl a => some (!decide (a = b)) | _ => none)
    | _ => none)
  | .in_ => (match y with
    | .lst xs => inD x xs
    | .tup xs => inD x xs
    | .ktp xs => inD x xs
    | .dic t ks _ => if keyOk t x then inD x ks else none
    | .str b => (match x with | .str a => some (!(Builtin.Str.occurrences b a 0 b.length 1).isEmpty) | _ => none)
    | _ => none)
  | .nin => (match y with
    | .lst xs => (inD x xs).map (!·)
    | .tup xs => (inD x xs).map (!·)
    | .ktp xs => (inD x xs).map (!·)
    | .dic t ks _ => if keyOk t x then (inD x ks).map (!·) else none
    | .str b => (match x with | .str a => some (!(!(Builtin.Str.occurrences b a 0 b.length 1).isEmpty)) | _ => none)
    | _ => none)

/-- the value at an equal key -/
def dget (k : D) : List D → List D → Option D
  | [], _ => none
  | _ :: _, [] => none
  | x :: ks, v :: vs => match D.eq x k with
    | some true => some v
    | some false => dget k ks vs
    | none => none
def evalIx (o i : D) : Option D :=
  match o, i with
  | .tup xs, .int k => L2.atI xs k
  | .lst xs, .int k => L2.atI xs k
  | .scr xs, .int k => L2.atI xs k
  | .ktp xs, .int k => L2.atI xs k
  | .str s, .int k => if s.length ≤ lim then (L2.atI s.cps.toList k).map fun c => .str ⟨#[c]⟩ else none
  | .dic t ks vs, k => if keyOk t k then dget k ks vs else none
  | _, _ => none

def cutD (xs : List D) (lo hi : Option Int) : List D := (xs.drop (HT.sIx xs.length 0 lo)).take (HT.sIx xs.length xs.length hi - HT.sIx xs.length 0 lo)
def isAbs : E → Bool
  | .absent => true
  | _ => false
/-- a slice's bound: left out, or an int -/
def boundD (ab : Bool) (d : D) : Option (Option Int) :=
  if ab then some none else match d with
    | .int i => some (some i)
    | _ => none
def evalSl (o : D) (l h : Option Int) : Option D :=
  match o with
  | .tup xs => some (.tup (cutD xs l h))
  | .lst xs => some (.lst (cutD xs l h))
  | .scr xs => some (.lst (cutD xs l h))
  | _ => none
/-- o[i], the register's too -/
def ixM (rs : Rg) (x y : D) : Option D :=
  match x with
  | .st => (match rs, y with | some l, .int k => L2.atI l k | _, _ => none)
  | x => evalIx x y
/-- ints out of data -/
def unI : List D → Option (List Int)
  | [] => some []
  | .int i :: r => (match unI r with | some l => some (i :: l) | none => none)
  | _ :: _ => none
def unB : List D → Option (List Bool)
  | [] => some []
  | .bl i :: r => (match unB r with | some l => some (i :: l) | none => none)
  | _ :: _ => none
def unS : List D → Option (List Str)
  | [] => some []
  | .str i :: r => (match unS r with | some l => some (i :: l) | none => none)
  | _ :: _ => none

/-- an insertion into an ordered list -/
def insD (x : D) : List D → List D
  | [] => [x]
  | y :: r => match D.lt x y with
    | some true => x :: y :: r
    | _ => y :: insD x r
def sortD : List D → List D
  | [] => []
  | x :: r => insD x (sortD r)
mutual
/-- ints and tuples of them, nested -/
def ordP : PyData → Bool
  | .int _ => true
  | .tuple xs => ordPs xs
  | _ => false
def ordPs : List PyData → Bool
  | [] => true
  | x :: r => ordP x && ordPs r
end
/-- all of one form -/
def pairAlike : List PyData → Bool
  | [] => true
  | x :: r => (r.all fun q => PySem.W.alike x q) && pairAlike r
def sortable (xs : List D) : Bool :=
  match D.pys xs with
  | some l => decide (PyData.depthAll l ≤ 60) && ordPs l && pairAlike l && ((l.all fun p => match p with | .tuple [] => false | _ => true) || (l.all fun p => match p with | .tuple [] => true | _ => false))
  | none => false
def maxI : Int → List Int → Int
  | m, [] => m
  | m, x :: r => maxI (if x > m then x else m) r
def minI : Int → List Int → Int
  | m, [] => m
  | m, x :: r => minI (if x < m then x else m) r

def evLen : List D → Option D
  | [.tup xs] => some (.int xs.length)
  | [.lst xs] => some (.int xs.length)
  | [.scr xs] => some (.int xs.length)
  | [.ktp xs] => some (.int xs.length)
  | [.dic _ ks _] => some (.int ks.length)
  | [.str s] => if s.length ≤ lim then some (.int s.length) else none
  | _ => none
def evAbs : List D → Option D
  | [.int i] => some (.int (if i < 0 then -i else i))
  | _ => none
def evInt : List D → Option D
  | [.int i] => some (.int i)
  | [.bl k] => some (.int (if k then 1 else 0))
  | _ => none
def evStr : List D → Option D
  | [.int i] => if i.natAbs.log2 < 1920 then some (.str (toString i : String)) else none
  | _ => none
def evSum : List D → Option D
  | [.lst xs] => (unI xs).map fun ns => .int ns.sum
  | [.tup xs] => (unI xs).map fun ns => .int ns.sum
  | _ => none
def evTuple : List D → Option D
  | [.tup xs] => some (.tup xs)
  | [.lst xs] => some (.tup xs)
  | _ => none
def evList : List D → Option D
  | [.tup xs] => some (.lst xs)
  | [.lst xs] => some (.lst xs)
  | [.dic _ ks _] => some (.lst ks)
  | _ => none
def evSorted : List D → Option D
  | [.lst xs] => if sortable xs then some (.lst (sortD xs)) else none
  | _ => none
def evMax : List D → Option D
  | [.int i, .int j] => some (.int (if j > i then j else i))
  | [.lst xs] => (match unI xs with | some (x :: r) => some (.int (maxI x r)) | _ => none)
  | _ => none
def evMin : List D → Option D
  | [.int i, .int j] => some (.int (if j < i then j else i))
  | [.lst xs] => (match unI xs with | some (x :: r) => some (.int (minI x r)) | _ => none)
  | _ => none
def evAll : List D → Option D
  | [.lst xs] => (unB xs).map fun bs => .bl (bs.all id)
  | _ => none
def evAny : List D → Option D
  | [.lst xs] => (unB xs).map fun bs => .bl (bs.any id)
  | _ => none
def evOrd : List D → Option D
  | [.str s] => if s.length = 1 then some (.int (s.cps.getD 0 0 : Nat)) else none
  | _ => none
def evalBi (b : Bi) (ds : List D) : Option D :=
  match b with
  | .len => evLen ds | .abs => evAbs ds | .int => evInt ds | .str => evStr ds | .sum => evSum ds | .tuple => evTuple ds | .list => evList ds
  | .sorted => evSorted ds | .max => evMax ds | .min => evMin ds | .all => evAll ds | .any => evAny ds | .ord => evOrd ds

def biM (rs : Rg) (b : Bi) (ds : List D) : Option D :=
  match b, ds with
  | .len, [.st] => rs.map fun l => .int l.length
  | b, ds => evalBi b ds
/-- the built-in class of a thing -/
def tyNm : D → Option String
  | .non => some "NoneType" | .bl _ => some "bool" | .int _ => some "int" | .str _ => some "str" | .tup _ => some "tuple" | .ktp _ => some "tuple"
  | .lst _ => some "list" | .scr _ => some "list" | .dic _ _ _ => some "dict" | .obj _ _ => none | .st => none
def tyS : Ty → Option String
  | .int => some "int" | .bool => some "bool" | .tuple => some "tuple" | .list => some "list" | .str => some "str" | .cls _ => none
def tySt : Ty → Option Str
  | .int => some "int" | .bool => some "bool" | .tuple => some "tuple" | .list => some "list" | .str => some "str" | .cls _ => none
def kitN (a b : String) : Bool := a == b || (a == "bool" && b == "int")
def tyIs (x : D) (t : Ty) : Option Bool :=
  match tyNm x, tyS t with
  | some a, some b => some (kitN a b)
  | _, _ => none
def tyAny (x : D) : List Ty → Option Bool
  | [] => some false
  | t :: r => match tyIs x t, tyAny x r with | some a, some b => some (a || b) | _, _ => none

/-- what an own == may be asked of -/
def eqTy (c : Nat) : D → Bool
  | .obj c' _ => decide (c' = c) | .st => false | _ => true
/-- what is walked -/
def rngL (lo hi : Int) : List D := (List.range (hi - lo).toNat).map fun (k : Nat) => .int (lo + (k : Int))
def rngC (lo hi : Int) : List D := (List.range (lo - hi).toNat).map fun (k : Nat) => .int (lo + (k : Int) * (-1))
def small62 (i : Int) : Bool := decide (-(2 ^ 62) ≤ i ∧ i < 2 ^ 62)
def walkD : D → Option (List D)
  | .tup xs => some xs
  | .lst xs => some xs
  | .ktp xs => some xs
  | .scr xs => some xs
  | .str s => some (s.cps.toList.map fun c => .str ⟨#[c]⟩)
  | _ => none

def loopC (f : D → M (Option D)) : List D → M (List D)
  | [] => .ok []
  | x :: r => M.bind (f x) fun y => M.bind (loopC f r) fun ys => .ok (match y with | some y => y :: ys | none => ys)
/-- several names for a tuple's items -/
def putAll : List Nat → List D → Env → Option Env
  | [], [], ρ => some ρ
  | i :: is, x :: xs, ρ => putAll is xs (ρ.set i (some (.d x)))
  | _, _, _ => none
def bindT (xs : List Nat) (x : D) (ρ : Env) : Option Env :=
  match xs, x with
  | [i], x => some (ρ.set i (some (.d x)))
  | is, .tup ds => putAll is ds ρ
  | _, _ => none
def wipeE (ρ : Env) : List Nat → Env
  | [] => ρ
  | i :: r => (wipeE ρ r).set i none

def isReg (x : D) : M Unit := fun rs => match x, rs with
  | .st, some _ => .ok () rs
  | _, _ => .stuck
/-- x op= y -/
def evalAug (op : Bop) (x y : D) : Option D :=
  match op, x, y with
  | .add, .int i, .int j => some (.int (i + j))
  | .sub, .int i, .int j => some (.int (i - j))
  | _, _, _ => none
structure Cfg where
  con : Nat → Option D
  call : Nat → List D → M D
  fuel : Nat

section
variable (G : Cfg)
mutual
/-- pk: an own list may be read (its contents alone are used) -/
def evalE : Bool → E → Env → M D
  | pk, .slot i, ρ => (match ρ[i]? with
    | some (some (.d x)) => .ok x
    | some (some (.ol xs)) => if pk then .ok (.lst xs) else .stuck
    | some (some (.od t ks vs)) => if pk then .ok (.dic t ks vs) else .stuck
    | _ => .stuck)
  | _, .knon, _ => .ok .non
  | _, .kbl b, _ => .ok (.bl b)
  | _, .kint i, _ => .ok (.int i)
  | _, .kstr s, _ => .ok (.str s)
  | _, .con g, _ => M.opt (G.con g)
  | _, .bin op a b, ρ => M.bind (evalE true a ρ) fun x => M.bind (evalE true b ρ) fun y => M.opt (evalBin op x y)
  | _, .neg a, ρ => M.bind (evalE true a ρ) fun x => (match x with | .int i => .ok (.int (-i)) | _ => .stuck)
  | _, .cmp op a b, ρ => M.bind (evalE true a ρ) fun x => M.bind (evalE true b ρ) fun y => M.bind (M.opt (evalCmp op x y)) fun z => .ok (.bl z)
  | _, .chain op op' a b c, ρ => M.bind (evalE true a ρ) fun x => M.bind (evalE true b ρ) fun y => M.bind (M.opt (evalCmp op x y)) fun k =>
      if k then M.bind (evalE true c ρ) fun z => (M.bind (M.opt (evalCmp op' y z)) fun z => .ok (.bl z)) else .ok (.bl false)
  | _, .and a b, ρ => M.bind (evalE true a ρ) fun x => (match x with
      | .bl true => M.bind (evalE true b ρ) fun y => (match y with | .bl k => .ok (.bl k) | _ => .stuck)
      | .bl false => .ok (.bl false)
      | _ => .stuck)
  | _, .or a b, ρ => M.bind (evalE true a ρ) fun x => (match x with
      | .bl false => M.bind (evalE true b ρ) fun y => (match y with | .bl k => .ok (.bl k) | _ => .stuck)
      | .bl true => .ok (.bl true)
      | _ => .stuck)
  | _, .not a, ρ => M.bind (evalE true a ρ) fun x => (match x with | .bl k => .ok (.bl (!k)) | _ => .stuck)
  | _, .ife c a b, ρ => M.bind (evalE true c ρ) fun x => (match x with | .bl true => evalE false a ρ | .bl false => evalE false b ρ | _ => .stuck)
  | _, .tup es, ρ => M.bind (evalEs false es ρ) fun xs => if xs.length ≤ lim then .ok (.tup xs) else .stuck
  | _, .lst es, ρ => M.bind (evalEs false es ρ) fun xs => if xs.length ≤ lim then .ok (.lst xs) else .stuck
  | _, .ix o i, ρ => M.bind (evalE true o ρ) fun x => M.bind (evalE true i ρ) fun y => fun rs => M.opt (ixM rs x y) rs
  | _, .sl o lo hi, ρ => M.bind (evalE true o ρ) fun x => M.bind (evalE true lo ρ) fun l => M.bind (M.opt (boundD (isAbs lo) l)) fun l' => M.bind (evalE true hi ρ) fun h => M.bind (M.opt (boundD (isAbs hi) h)) fun h' => M.opt (evalSl x l' h')
  | _, .slr o, ρ => M.bind (evalE true o ρ) fun x => (match x with | .tup xs => .ok (.tup xs.reverse) | .lst xs => .ok (.lst xs.reverse) | _ => .stuck)
  | _, .absent, _ => .ok .non
  | _, .call f es, ρ => M.bind (evalEs false es ρ) fun xs => G.call f xs
  | _, .bi b es, ρ => M.bind (evalEs true es ρ) fun xs => fun rs => M.opt (biM rs b xs) rs
  | _, .isi a ts, ρ => M.bind (evalE true a ρ) fun x => M.bind (M.opt (tyAny x ts)) fun z => .ok (.bl z)
  | _, .comp el xs it cs, ρ => M.bind (evalIt true it ρ) fun ds => if ds.length ≤ lim then
      M.bind (M.nox (loopC (fun d => M.bind (M.opt (bindT xs d (wipeE ρ xs))) fun ρ' => M.bind (evalCs cs ρ') fun k =>
        if k then M.bind (evalE false el ρ') fun y => .ok (some y) else .ok none) ds)) fun ys => .ok (.lst ys) else .stuck
  | _, .comp2 el x it y it2, ρ => M.bind (evalIt true it ρ) fun ds =>
      M.bind (M.nox (loopC (fun d => M.bind (evalIt true it2 ((wipeE ρ [x, y]).set x (some (.d d)))) fun es =>
        M.bind (loopC (fun e => M.bind (evalE false el (((wipeE ρ [x, y]).set x (some (.d d))).set y (some (.d e)))) fun z => .ok (some z)) es) fun zs => .ok (some (.lst zs))) ds))
      fun yss => let r := (yss.map fun z => match z with | .lst zs => zs | _ => []).flatten
        if r.length ≤ lim then .ok (.lst r) else .stuck
  | _, .compK el xs i cs, ρ => (match ρ[i]? with
    | some (some (.od _ ks _)) => if ks.length ≤ lim then
        M.bind (M.nox (loopC (fun d => M.bind (M.opt (bindT xs d (wipeE (ρ.set i none) xs))) fun ρ' => M.bind (evalCs cs ρ') fun k =>
          if k then M.bind (evalE false el ρ') fun y => .ok (some y) else .ok none) ks)) fun ys => .ok (.lst ys) else .stuck
    | _ => .stuck)
  | _, .join s l, ρ => M.bind (evalE true s ρ) fun x => M.bind (evalE true l ρ) fun y => (match x, y with
      | .str a, .lst xs => (match unS xs with | some ss => .ok (.str (Txt.join a ss)) | none => .stuck)
      | _, _ => .stuck)
  | _, .find o x, ρ => M.bind (evalE true o ρ) fun a => M.bind (evalE true x ρ) fun b => (match a with
      | .lst xs => (match inD b xs with
        | some true => .ok (.int ((xs.findIdx fun z => D.eq z b == some true : Nat)))
        | _ => .stuck)
      | _ => .stuck)
  | _, .rpop o i, ρ => M.bind (evalE true o ρ) fun x => M.bind (isReg x) fun _ => M.bind (evalE true i ρ) fun y => (match x, y with
      | .st, .int k => (fun rs => match rs with
        | some l => (match seqIndex? k l.length with
          | some j => (match l[j]? with | some v => if small62 k then .ok v (some (l.eraseIdx j)) else .stuck | none => .stuck)
          | none => .stuck)
        | none => .stuck)
      | _, _ => .stuck)
  | _, .fld o c f, ρ => M.bind (evalE true o ρ) fun x => (match x with | .obj c' fs => if c' = c then M.opt fs[f]? else .stuck | _ => .stuck)
  | _, .meth c f o es, ρ => M.bind (evalE true o ρ) fun x => (match x with | .obj c' fs => if c' = c then M.bind (evalEs false es ρ) fun xs => G.call f (.obj c' fs :: xs) else .stuck | _ => .stuck)
  | _, .make c f es, ρ => M.bind (evalEs false es ρ) fun xs => G.call f xs
  | _, .oeq c f a b, ρ => M.bind (evalE true a ρ) fun x => M.bind (evalE false b ρ) fun y => (match x with
      | .obj c' fs => if c' = c ∧ eqTy c y = true then M.bind (M.nox (G.call f [.obj c' fs, y])) fun z => (match z with | .bl k => .ok (.bl k) | _ => .stuck) else .stuck
      | _ => .stuck)
  | _, .ostr c f a, ρ => M.bind (evalE true a ρ) fun x => (match x with
      | .obj c' fs => if c' = c then M.bind (M.nox (G.call f [.obj c' fs])) fun z => (match z with | .str k => .ok (.str k) | _ => .stuck) else .stuck
      | _ => .stuck)
  | _, .isc a c, ρ => M.bind (evalE true a ρ) fun x => (match x with
      | .obj c' _ => if c' = c then .ok (.bl true) else .stuck
      | x => (match tyNm x with | some _ => .ok (.bl false) | none => .stuck))
  | _, .dnew t, _ => .ok (.dic t [] [])
  | _, .ddisp k v, ρ => M.bind (evalE false k ρ) fun x => M.bind (evalE false v ρ) fun y => if keyOk true x then .ok (.dic true [x] [y]) else .stuck
def evalEs : Bool → Es → Env → M (List D)
  | _, .nil, _ => .ok []
  | pk, .cons e r, ρ => M.bind (evalE pk e ρ) fun x => M.bind (evalEs pk r ρ) fun xs => .ok (x :: xs)
/-- all tests hold -/
def evalCs : Es → Env → M Bool
  | .nil, _ => .ok true
  | .cons e r, ρ => M.bind (evalE true e ρ) fun x => (match x with | .bl true => evalCs r ρ | .bl false => .ok false | _ => .stuck)
def evalIt : Bool → It → Env → M (List D)
  | _, .rng1 a, ρ => M.bind (evalE true a ρ) fun x => (match x with | .int i => if small62 i then .ok (rngL 0 i) else .stuck | _ => .stuck)
  | _, .rng2 a b, ρ => M.bind (evalE true a ρ) fun x => M.bind (evalE true b ρ) fun y => (match x, y with
      | .int i, .int j => if small62 i && small62 j then .ok (rngL i j) else .stuck
      | _, _ => .stuck)
  | _, .rng3 a b c, ρ => M.bind (evalE true a ρ) fun x => M.bind (evalE true b ρ) fun y => M.bind (evalE true c ρ) fun z => (match x, y, z with
      | .int i, .int j, .int k => if small62 i && small62 j && decide (k = -1) then .ok (rngC i j) else .stuck
      | _, _, _ => .stuck)
  | pk, .seq a, ρ => M.bind (evalE pk a ρ) fun x => M.opt (walkD x)
end

inductive Out where
  | nx (ρ : Env) | ret (d : D) | bk (ρ : Env) | ct (ρ : Env)
def loopF (f : D → Env → M Out) : List D → Env → M Out
  | [], ρ => .ok (.nx ρ)
  | x :: r, ρ => M.bind (f x ρ) fun o => match o with
    | .nx ρ' => loopF f r ρ'
    | .ct ρ' => loopF f r ρ'
    | .bk ρ' => .ok (.nx ρ')
    | .ret d => .ok (.ret d)
def loopW (c : Env → M D) (b : Env → M Out) : Nat → Env → M Out
  | 0, _ => .stuck
  | n + 1, ρ => M.bind (c ρ) fun k => match k with
    | .bl true => M.bind (b ρ) fun o => (match o with
      | .nx ρ' => loopW c b n ρ'
      | .ct ρ' => loopW c b n ρ'
      | .bk ρ' => .ok (.nx ρ')
      | .ret d => .ok (.ret d))
    | .bl false => .ok (.nx ρ)
    | _ => .stuck
/-- d[k] = v -/
def dputV (k v : D) (ks vs : List D) : Option (List D) :=
  match inD k ks with
  | some true => some (List.zipWith (fun x w => if D.eq x k == some true then v else w) ks vs)
  | some false => some (vs ++ [v])
  | none => none
def dputK (k : D) (ks : List D) : Option (List D) :=
  match inD k ks with
  | some true => some ks
  | some false => some (ks ++ [k])
  | none => none
/-- a slot that holds a list or dict of one's own is changed by place -/
def putIx (sv : SV) (k v : D) : Option SV :=
  match sv, k with
  | .ol xs, .int i => (match L2.ixN xs.length i with | some j => some (.ol (xs.set j v)) | none => none)
  | .od t ks vs, k => if keyOk t k && decide (ks.length < lim) then (match dputK k ks, dputV k v ks vs with
    | some ks', some vs' => some (.od t ks' vs')
    | _, _ => none) else none
  | _, _ => none

/-- l.remove(x): the first item that is == x is gone -/
def remD (v : D) (xs : List D) : Option (List D) :=
  match v.py, D.pys xs with
  | some a, some l => if a.depth ≤ 60 ∧ PyData.depthAll l ≤ 60 then (l.findIdx? fun y => PyData.eqv y a).map fun j => xs.eraseIdx j else none
  | _, _ => none
def evalX : XE → Nat → D → Option D
  | .fld k, c, d => if k = c then some d else none
  | .str s, _, _ => some (.str s)
  | .int i, _, _ => some (.int i)
  | .bl b, _, _ => some (.bl b)
  | .pair a b, c, d => (match evalX a c d, evalX b c d with | some x, some y => some (.tup [x, y]) | _, _ => none)
  | .eqs k s, c, d => if k = c then (evalCmp .eq d (.str s)).map .bl else none
def execSu : Su → Nat → D → Env → M Out
  | .ret x, c, d, _ => M.bind (M.opt (evalX x c d)) fun v => .ok (.ret v)
  | .app i x, c, d, ρ => (match ρ[i]? with
      | some (some (.ol xs)) => M.bind (M.opt (evalX x c d)) fun v => if xs.length < lim then .ok (.nx (ρ.set i (some (.ol (xs ++ [v]))))) else .stuck
      | _ => .stuck)
  | .inc i n, _, _, ρ => (match ρ[i]? with
      | some (some (.d (.int k))) => .ok (.nx (ρ.set i (some (.d (.int (k + n))))))
      | _ => .stuck)
def offE (ρ : Env) : Option Nat → Env
  | none => ρ
  | some i => ρ.set i none
def handleH : List Hd → Nat → D → Env → M Out
  | [], c, d, _ => M.exc c d
  | h :: r, c, d, ρ => if xsub c h.c then execSu h.su c d (offE ρ h.i) else handleH r c d ρ
def tryM (m : M Out) (hs : List Hd) (ρ : Env) : M Out := fun rs =>
  match m rs with
  | .ok o rs' => .ok o rs'
  | .exc c d rs' => handleH hs c d ρ rs'
  | .stuck => .stuck
mutual
def execS : S → Env → M Out
  | .set i e, ρ => M.bind (evalE G false e ρ) fun x => .ok (.nx (ρ.set i (some (.d x))))
  | .own i e, ρ => M.bind (evalE G false e ρ) fun x => (match x with
      | .lst xs => .ok (.nx (ρ.set i (some (.ol xs))))
      | .dic t ks vs => .ok (.nx (ρ.set i (some (.od t ks vs))))
      | _ => .stuck)
  | .un is e, ρ => M.bind (evalE G false e ρ) fun x => (match x with
      | .tup ds => (match putAll is ds ρ with | some ρ' => .ok (.nx ρ') | none => .stuck)
      | _ => .stuck)
  | .swap i j a b, ρ => M.bind (evalE G false a ρ) fun x => M.bind (evalE G false b ρ) fun y => .ok (.nx ((ρ.set i (some (.d x))).set j (some (.d y))))
  | .aug i op e, ρ => (match ρ[i]? with
      | some (some (.d x)) => M.bind (evalE G true e ρ) fun y => M.bind (M.opt (evalAug op x y)) fun z => .ok (.nx (ρ.set i (some (.d z))))
      | _ => .stuck)
  | .put i k e, ρ => M.bind (evalE G false e ρ) fun v => (match ρ[i]? with
      | some (some (.d .st)) => M.bind (evalE G true k ρ) fun kk => (fun rs => match rs, kk with
        | some l, .int n => (match L2.ixN l.length n with | some j => .ok (.nx ρ) (some (l.set j v)) | none => .stuck)
        | _, _ => .stuck)
      | some (some (.d _)) => .stuck
      | some (some sv) => M.bind (evalE G true k ρ) fun kk => (match putIx sv kk v with | some sv' => .ok (.nx (ρ.set i (some sv'))) | none => .stuck)
      | _ => .stuck)
  | .augIx i k op e, ρ => M.bind (evalE G true k ρ) fun kk => (match ρ[i]?, kk with
      | some (some (.ol xs)), .int n => M.bind (M.opt (L2.atI xs n)) fun x => M.bind (evalE G true e ρ) fun y => M.bind (M.opt (evalAug op x y)) fun z =>
        (match L2.ixN xs.length n with | some j => .ok (.nx (ρ.set i (some (.ol (xs.set j z))))) | none => .stuck)
      | _, _ => .stuck)
  | .app i e, ρ => (match ρ[i]? with
      | some (some (.ol xs)) => M.bind (evalE G false e ρ) fun v => if xs.length < lim then .ok (.nx (ρ.set i (some (.ol (xs ++ [v]))))) else .stuck
      | _ => .stuck)
  | .ext i e, ρ => (match ρ[i]? with
      | some (some (.ol xs)) => M.bind (evalE G false e ρ) fun v => (match v with
        | .lst ys => if xs.length + ys.length ≤ lim then .ok (.nx (ρ.set i (some (.ol (xs ++ ys))))) else .stuck
        | _ => .stuck)
      | _ => .stuck)
  | .pop i, ρ => (match ρ[i]? with
      | some (some (.ol xs)) => if xs.length = 0 then .stuck else .ok (.nx (ρ.set i (some (.ol xs.dropLast))))
      | _ => .stuck)
  | .appPop i j e, ρ => (match ρ[i]?, ρ[j]? with
      | some (some (.ol xs)), some (some (.ol ys)) => M.bind (evalE G true e ρ) fun k => (match k with
        | .int n => (match seqIndex? n ys.length with
          | some m => (match ys[m]? with
            | some v => if xs.length < lim ∧ small62 n = true ∧ i ≠ j then .ok (.nx ((ρ.set j (some (.ol (ys.eraseIdx m)))).set i (some (.ol (xs ++ [v]))))) else .stuck
            | none => .stuck)
          | none => .stuck)
        | _ => .stuck)
      | _, _ => .stuck)
  | .setPop i j e, ρ => (match ρ[j]? with
      | some (some (.ol ys)) => M.bind (evalE G true e ρ) fun k => (match k with
        | .int n => (match seqIndex? n ys.length with
          | some m => (match ys[m]? with
            | some v => if small62 n = true ∧ i ≠ j then .ok (.nx ((ρ.set j (some (.ol (ys.eraseIdx m)))).set i (some (.d v)))) else .stuck
            | none => .stuck)
          | none => .stuck)
        | _ => .stuck)
      | _ => .stuck)
  | .rem i e, ρ => (match ρ[i]? with
      | some (some (.ol xs)) => M.bind (evalE G true e ρ) fun v => (match remD v xs with
        | some ys => .ok (.nx (ρ.set i (some (.ol ys))))
        | none => .stuck)
      | _ => .stuck)
  | .mov i j, ρ => (match ρ[j]? with
      | some (some sv) => if sv.isOwnB && !decide (i = j) then .ok (.nx ((ρ.set j none).set i (some sv))) else .stuck
      | _ => .stuck)
  | .frz i, ρ => (match ρ[i]? with
      | some (some (.ol xs)) => .ok (.nx (ρ.set i (some (.d (.lst xs)))))
      | some (some (.od t ks vs)) => .ok (.nx (ρ.set i (some (.d (.dic t ks vs)))))
      | _ => .stuck)
  | .drop e, ρ => M.bind (evalE G true e ρ) fun _ => .ok (.nx ρ)
  | .ret e, ρ => M.bind (evalE G false e ρ) fun x => .ok (.ret x)
  | .ret0, _ => .ok (.ret .non)
  | .if_ c a b, ρ => M.bind (evalE G true c ρ) fun x => (match x with
      | .bl true => execSs a ρ
      | .bl false => execSs b ρ
      | _ => .stuck)
  | .while_ c b, ρ => loopW (fun ρ => evalE G true c ρ) (fun ρ => execSs b ρ) G.fuel ρ
  | .for_ xs it b, ρ => M.bind (evalIt G false it ρ) fun ds => loopF (fun d ρ => M.bind (M.opt (bindT xs d ρ)) fun ρ' => execSs b ρ') ds ρ
  | .brk, ρ => .ok (.bk ρ)
  | .cont, ρ => .ok (.ct ρ)
  | .pass, ρ => .ok (.nx ρ)
  | .raise c e, ρ => M.bind (evalE G false e ρ) fun x => M.exc c x
  | .try_ b hs, ρ => tryM (execSs b ρ) hs ρ
  | .never, _ => .stuck
def execSs : Ss → Env → M Out
  | .nil, ρ => .ok (.nx ρ)
  | .cons s r, ρ => M.bind (execS s ρ) fun o => (match o with
    | .nx ρ' => execSs r ρ'
    | .ret d => .ok (.ret d)
    | .bk ρ' => .ok (.bk ρ')
    | .ct ρ' => .ok (.ct ρ'))
end
end

/-! ### defs -/
/-- kd: 0 a def, 1 a method of the class c, 3 its __str__, 2 the __init__ of the class c (body: what stands ahead of the fields, fs: what is put into the fields in order) -/
structure Fn where
  name : Str
  ps : Nat
  n : Nat
  body : Ss
  kd : Nat
  c : Nat
  fs : Es
def setD (d : D) : Option SV := some (.d d)
mutual
/-- the register is not in it -/
def D.noSt : D → Bool
  | .st => false
  | .tup xs => D.noSts xs
  | .lst xs => D.noSts xs
  | .scr xs => D.noSts xs
  | .ktp xs => D.noSts xs
  | .dic _ _ vs => D.noSts vs
  | .obj _ fs => D.noSts fs
  | .non => true
  | .bl _ => true
  | .int _ => true
  | .str _ => true
def D.noSts : List D → Bool
  | [] => true
  | x :: r => D.noSt x && D.noSts r
end
def initK (f : Fn) (rs : Rg) (flds : Env → Rg → Res (List D)) : Res Out → Res D
  | .ok (.nx ρ) r1 => (match ρ[0]? with
    | some (some (SV.d D.st)) => (match flds ρ r1 with
      | .ok ds _ => if D.noSts ds then .ok (.obj f.c ds) rs else .stuck
      | _ => .stuck)
    | _ => .stuck)
  | .exc c d _ => if d.noSt then .exc c d rs else .stuck
  | _ => .stuck
/-- a def's value: n slots, the parameters first; an __init__ runs without the register, its self stands for it -/
def runFn (G : Cfg) (f : Fn) (args : List D) : M D :=
  if f.kd = 2 then fun rs =>
    if args.length + 1 = f.ps ∧ D.noSts args = true then
      initK f rs (fun ρ => M.nox (evalEs G false f.fs ρ)) (execSs G f.body (setD .st :: (args.map setD ++ List.replicate (f.n - f.ps) none)) none)
    else .stuck
  else if args.length = f.ps then
    M.bind (execSs G f.body (args.map (fun d => some (.d d)) ++ List.replicate (f.n - f.ps) none)) fun o => match o with
      | .ret d => .ok d
      | .nx _ => .ok .non
      | _ => .stuck
  else .stuck
/-- a class: its fields in the order in which __init__ puts them -/
structure Cl where
  name : Str
  flds : List Str
structure Tab where
  fns : List Fn
  cons : List (Str × D)
  cls : List Cl
  xs : List Nat
/-- calls to the depth k; ex: defs that are told by hand -/
def callK (T : Tab) (fuel : Nat) (ex : Nat → Option (List D → M D)) : Nat → Nat → List D → M D
  | 0, _, _ => .stuck
  | k + 1, f, args => match ex f with
    | some g => g args
    | none => (match T.fns[f]? with
      | some fn => if fn.kd = 2 then (match k with
          | 0 => .stuck
          | j + 1 => runFn { con := fun i => (T.cons[i]?).map (·.2), call := callK T fuel ex j, fuel := fuel } fn args)
        else if fn.kd = 3 then (match k with
          | 0 => .stuck
          | 1 => .stuck
          | j + 2 => runFn { con := fun i => (T.cons[i]?).map (·.2), call := callK T fuel ex j, fuel := fuel } fn args)
        else runFn { con := fun i => (T.cons[i]?).map (·.2), call := callK T fuel ex k, fuel := fuel } fn args
      | none => .stuck)
end Mp

set_option Elab.async false
set_option linter.all false
set_option maxRecDepth 100000
set_option maxHeartbeats 1000000
/-! Mp, part 3: worlds, states, readings. -/
namespace Mp
open PySem L2

/-- what of the head is known: classes of instances, exception classes -/
structure Bd where
  K : PySem.W.Frag
  cn : Nat → Option (Addr × List Str)
  xc : Nat → Option (Addr × Option Str)

structure Wd (B : Bd) (sa : Addr) (Hs H : Hp) (rs : Rg) : Prop where
  sub : Same Hs H
  sne : H sa ≠ none
  reg : ∀ xs, rs = some xs → Hs sa = none ∧ ∃ vs, H sa = some (.lst vs) ∧ Rps B.K B.cn sa Hs xs vs
structure Ext (B : Bd) (sa : Addr) (Hs H : Hp) (rs : Rg) (Hs' H' : Hp) (rs' : Rg) : Prop where
  wd : Wd B sa Hs' H' rs'
  ss : Same Hs Hs'
  keep : ∀ b o, (b ≠ sa ∨ rs = none) → H b = some o → H' b = some o
  new : ∀ b o, Hs b = none → H b = some o → (∀ xs, o ≠ .tup xs) → Hs' b = none
  som : rs = none ↔ rs' = none

section
variable {B : Bd} {sa : Addr} {Hs H Hs1 H1 Hs2 H2 : Hp} {rs rs1 rs2 : Rg}
theorem ne_none {H : Hp} {a : Addr} {o : HO} (h : H a = some o) : H a ≠ none := by rw [h]; simp
theorem some_of {H : Hp} {a : Addr} (h : H a ≠ none) : ∃ o, H a = some o := by
  cases e : H a with
  | none => exact absurd e h
  | some o => exact ⟨o, rfl⟩
theorem Wd.refl (w : Wd B sa Hs H rs) : Ext B sa Hs H rs Hs H rs := ⟨w, Same.refl _, fun _ _ _ h => h, fun _ _ h _ _ => h, Iff.rfl⟩
theorem Ext.there (e : Ext B sa Hs H rs Hs1 H1 rs1) {b : Addr} (h : H b ≠ none) : H1 b ≠ none := by
  by_cases hb : b ≠ sa ∨ rs = none
  · obtain ⟨o, q⟩ := some_of h
    exact ne_none (e.keep b o hb q)
  · have : b = sa := Decidable.byContradiction fun z => hb (.inl z)
    rw [this]; exact e.wd.sne
theorem Ext.trans (a : Ext B sa Hs H rs Hs1 H1 rs1) (b : Ext B sa Hs1 H1 rs1 Hs2 H2 rs2) : Ext B sa Hs H rs Hs2 H2 rs2 :=
  ⟨b.wd, a.ss.trans b.ss, fun c o h q => b.keep c o (h.imp id a.som.mp) (a.keep c o h q), fun c o h q n => by
    by_cases hb : c ≠ sa ∨ rs = none
    · exact b.new c o (a.new c o h q n) (a.keep c o hb q) n
    · have hc : c = sa := Decidable.byContradiction fun z => hb (.inl z)
      have hr : rs ≠ none := fun z => hb (.inr z)
      have hr1 : rs1 ≠ none := fun z => hr (a.som.mpr z)
      obtain ⟨l, hl⟩ : ∃ l, rs1 = some l := by
        cases rs1 with
        | none => exact absurd rfl hr1
        | some l => exact ⟨l, rfl⟩
      obtain ⟨h1, vs, h2, h3⟩ := a.wd.reg l hl
      subst hc
      exact b.new c _ h1 h2 (fun xs z => by cases z), a.som.trans b.som⟩
/-- a new object among the shared ones -/
theorem Wd.alloc (w : Wd B sa Hs H rs) {p : Addr} {o : HO} (hp : H p = none) : Ext B sa Hs H rs (upd Hs p o) (upd H p o) rs := by
  have hsp : Hs p = none := by
    cases q : Hs p with
    | none => rfl
    | some u => rw [w.sub p u q] at hp; cases hp
  have nsa : sa ≠ p := fun z => w.sne (z ▸ hp)
  have ss : Same Hs (upd Hs p o) := fun b u e => by rw [upd_ne (ne_of_none e hsp)]; exact e
  refine ⟨⟨fun b u e => ?_, by rw [upd_ne nsa]; exact w.sne, fun xs e => ?_⟩, ss, fun b u _ e => by rw [upd_ne (ne_of_none e hp)]; exact e, fun b u h q _ => ?_, Iff.rfl⟩
  · by_cases hb : b = p
    · subst hb; rw [upd_same] at e ⊢; exact e
    · rw [upd_ne hb] at e ⊢; exact w.sub b u e
  · obtain ⟨h1, vs, h2, h3⟩ := w.reg xs e
    exact ⟨by rw [upd_ne nsa]; exact h1, vs, by rw [upd_ne nsa]; exact h2, Rps.mono ss _ _ h3⟩
  · have hb : b ≠ p := ne_of_none q hp
    rw [upd_ne hb]; exact h
/-- a new object of one's own -/
theorem Wd.allocO (w : Wd B sa Hs H rs) {p : Addr} {o : HO} (hp : H p = none) : Ext B sa Hs H rs Hs (upd H p o) rs := by
  have nsa : sa ≠ p := fun z => w.sne (z ▸ hp)
  refine ⟨⟨fun b u e => ?_, by rw [upd_ne nsa]; exact w.sne, fun xs e => ?_⟩, Same.refl _, fun b u _ e => by rw [upd_ne (ne_of_none e hp)]; exact e, fun b u h q _ => h, Iff.rfl⟩
  · rw [upd_ne (ne_of_none (w.sub b u e) hp)]; exact w.sub b u e
  · obtain ⟨h1, vs, h2, h3⟩ := w.reg xs e
    exact ⟨h1, vs, by rw [upd_ne nsa]; exact h2, h3⟩
/-- the tuples are shared -/
def plusT (Hs H : Hp) : Hp := fun b => match Hs b with
  | some o => some o
  | none => match H b with
    | some (.tup xs) => some (.tup xs)
    | _ => none
theorem plusT_same : Same Hs (plusT Hs H) := fun b o e => by unfold plusT; rw [e]
theorem plusT_tup (hs : Same Hs H) {b : Addr} {xs : List V} (e : H b = some (.tup xs)) : plusT Hs H b = some (.tup xs) := by
  unfold plusT
  cases q : Hs b with
  | none => simp only [e]
  | some o =>
    have := hs b o q
    rw [e] at this
    exact this.symm
theorem plusT_no {b : Addr} (h : Hs b = none) (n : ∀ xs, H b ≠ some (.tup xs)) : plusT Hs H b = none := by
  unfold plusT
  rw [h]
  cases q : H b with
  | none => rfl
  | some o => cases o <;> first | rfl | exact absurd q (n _)
theorem Wd.plus (w : Wd B sa Hs H rs) : Ext B sa Hs H rs (plusT Hs H) H rs := by
  refine ⟨⟨fun b o e => ?_, w.sne, fun xs e => ?_⟩, plusT_same, fun _ _ _ h => h, fun b o h q n => plusT_no h fun xs z => n xs (by rw [q] at z; exact Option.some.inj z), Iff.rfl⟩
  · unfold plusT at e
    split at e
    · rename_i o' q; cases e; exact w.sub b _ q
    · split at e
      · rename_i xs q; cases e; exact q
      · cases e
  · obtain ⟨h1, vs, h2, h3⟩ := w.reg xs e
    exact ⟨plusT_no h1 (fun xs z => by rw [h2] at z; cases z), vs, h2, Rps.mono plusT_same _ _ h3⟩
/-- an own object becomes shared -/
theorem Wd.share (w : Wd B sa Hs H rs) {p : Addr} {o : HO} (hp : H p = some o) (hs : Hs p = none) (n : p ≠ sa) : Wd B sa (upd Hs p o) H rs := by
  have ss : Same Hs (upd Hs p o) := fun b u e => by rw [upd_ne (ne_of_none e hs)]; exact e
  refine ⟨fun b u e => ?_, w.sne, fun xs e => ?_⟩
  · by_cases hb : b = p
    · subst hb; rw [upd_same] at e; cases e; exact hp
    · rw [upd_ne hb] at e; exact w.sub b u e
  · obtain ⟨h1, vs, h2, h3⟩ := w.reg xs e
    exact ⟨by rw [upd_ne (Ne.symm n)]; exact h1, vs, h2, Rps.mono ss _ _ h3⟩
end

/-! ### slots -/
/-- a list or dict of one's own at a -/
def OwnAt (B : Bd) (sa : Addr) (Hs H : Hp) (a : Addr) : SV → Prop
  | .d _ => False
  | .ol xs => Hs a = none ∧ ∃ vs, H a = some (.lst vs) ∧ Rps B.K B.cn sa Hs xs vs
  | .od false ks ds => Hs a = none ∧ ∃ (kk : List Key) (vs : List V), H a = some (.dK (kk.zip vs)) ∧ kk.length = vs.length ∧ ks = kk.map kD ∧ Rps B.K B.cn sa Hs ds vs
  | .od true ks ds => Hs a = none ∧ ∃ (kk : List (List Key)) (vs : List V), H a = some (.dT (kk.zip vs)) ∧ kk.length = vs.length ∧ ks = kk.map kDs ∧ Rps B.K B.cn sa Hs ds vs
def svD : SV → D
  | .d x => x
  | .ol xs => .lst xs
  | .od t ks vs => .dic t ks vs
theorem OwnAt.mono {B : Bd} {sa : Addr} {Hs H Hs1 H1 : Hp} {rs rs1 : Rg} {a : Addr} (e : Ext B sa Hs H rs Hs1 H1 rs1) (n : a ≠ sa) : ∀ {s : SV}, OwnAt B sa Hs H a s → OwnAt B sa Hs1 H1 a s
  | .d _, h => h
  | .ol xs, ⟨h1, vs, h2, h3⟩ => ⟨e.new a _ h1 h2 (fun _ z => by cases z), vs, e.keep a _ (.inl n) h2, Rps.mono e.ss _ _ h3⟩
  | .od false ks ds, ⟨h1, kk, vs, h2, h3, h4, h5⟩ => ⟨e.new a _ h1 h2 (fun _ z => by cases z), kk, vs, e.keep a _ (.inl n) h2, h3, h4, Rps.mono e.ss _ _ h5⟩
  | .od true ks ds, ⟨h1, kk, vs, h2, h3, h4, h5⟩ => ⟨e.new a _ h1 h2 (fun _ z => by cases z), kk, vs, e.keep a _ (.inl n) h2, h3, h4, Rps.mono e.ss _ _ h5⟩
theorem OwnAt.ne {B : Bd} {sa : Addr} {Hs H : Hp} {a : Addr} : ∀ {s : SV}, OwnAt B sa Hs H a s → Hs a = none ∧ H a ≠ none
  | .d _, h => h.elim
  | .ol _, ⟨h1, _, h2, _⟩ => ⟨h1, ne_none h2⟩
  | .od false _ _, ⟨h1, _, _, h2, _⟩ => ⟨h1, ne_none h2⟩
  | .od true _ _, ⟨h1, _, _, h2, _⟩ => ⟨h1, ne_none h2⟩
/-- what a slot holds -/
def SlotOk (B : Bd) (sa : Addr) (H0 Hs H : Hp) (s : SV) (v : V) : Prop :=
  match s with
  | .d x => Rp B.K B.cn sa Hs x v
  | s => ∃ a, v = .ref a ∧ H0 a = none ∧ OwnAt B sa Hs H a s
def SV.isOwn : SV → Bool
  | .d _ => false
  | _ => true
structure SR (B : Bd) (sa : Addr) (Hs0 H0 : Hp) (rs0 : Rg) (Hs H : Hp) (rs : Rg) (ρ : Env) (σ : St) : Prop where
  sne : H0 sa ≠ none
  ext : Ext B sa Hs0 H0 rs0 Hs H rs
  len : ρ.length = σ.length
  slot : ∀ (i : Nat) (s : SV), ρ[i]? = some (some s) → ∃ v, σ[i]? = some (some v) ∧ SlotOk B sa H0 Hs H s v
  apart : ∀ (i j : Nat) (s t : SV) (v : V), ρ[i]? = some (some s) → ρ[j]? = some (some t) → s.isOwn = true → t.isOwn = true → σ[i]? = some (some v) → σ[j]? = some (some v) → i = j
section
variable {B : Bd} {sa : Addr} {Hs0 H0 Hs H Hs1 H1 : Hp} {rs0 rs rs1 : Rg} {ρ : Env} {σ : St}
theorem SlotOk.mono (e : Ext B sa Hs H rs Hs1 H1 rs1) (sne : H0 sa ≠ none) : ∀ {s : SV} {v : V}, SlotOk B sa H0 Hs H s v → SlotOk B sa H0 Hs1 H1 s v
  | .d x, v, h => Rp.mono e.ss x v h
  | .ol xs, v, ⟨a, h1, h2, h3⟩ => ⟨a, h1, h2, h3.mono e fun z => sne (z ▸ h2)⟩
  | .od t ks ds, v, ⟨a, h1, h2, h3⟩ => ⟨a, h1, h2, h3.mono e fun z => sne (z ▸ h2)⟩
theorem SR.mono (r : SR B sa Hs0 H0 rs0 Hs H rs ρ σ) (e : Ext B sa Hs H rs Hs1 H1 rs1) : SR B sa Hs0 H0 rs0 Hs1 H1 rs1 ρ σ :=
  ⟨r.sne, r.ext.trans e, r.len, fun i s h => let ⟨v, h1, h2⟩ := r.slot i s h; ⟨v, h1, h2.mono e r.sne⟩, r.apart⟩
theorem SR.wd (r : SR B sa Hs0 H0 rs0 Hs H rs ρ σ) : Wd B sa Hs H rs := r.ext.wd
end

/-! ### what is wanted -/
def ExR (B : Bd) (sa : Addr) (Hs : Hp) (c : Nat) (d : D) (cls : Value) (dd : Option Addr) : Prop :=
  ∃ C fo, B.xc c = some (C, fo) ∧ cls = .ref C ∧ (match fo with
    | none => dd = none
    | some f => ∃ dx v, dd = some dx ∧ Hs dx = some (.xd [(f, v)]) ∧ Rp B.K B.cn sa Hs d v)
def Post {α : Type} (B : Bd) (sa : Addr) (W : Value → Option Addr → Hp → Prop) (Hs H : Hp) (rs : Rg) (r : Res α) (Q : α → Hp → Hp → Rg → Prop) : Prop :=
  match r with
  | .ok a rs' => ∀ Hs' H', Ext B sa Hs H rs Hs' H' rs' → Q a Hs' H' rs'
  | .exc c d rs' => ∀ Hs' H' cls dd, Ext B sa Hs H rs Hs' H' rs' → ExR B sa Hs' c d cls dd → W cls dd H'
  | .stuck => False
section
variable {α β : Type} {B : Bd} {sa : Addr} {W : Value → Option Addr → Hp → Prop} {Hs H Hs1 H1 : Hp} {rs rs1 : Rg}
theorem Post.shift {r : Res α} {Q : α → Hp → Hp → Rg → Prop} (e : Ext B sa Hs H rs Hs1 H1 rs1) (h : Post B sa W Hs H rs r Q) : Post B sa W Hs1 H1 rs1 r Q := by
  cases r with
  | ok a rs' => exact fun Hs' H' e' => h Hs' H' (e.trans e')
  | exc c d rs' => exact fun Hs' H' cls dd e' x => h Hs' H' cls dd (e.trans e') x
  | stuck => exact h
theorem Post.mono {r : Res α} {Q Q' : α → Hp → Hp → Rg → Prop} (h : Post B sa W Hs H rs r Q) (k : ∀ a Hs' H' rs', Ext B sa Hs H rs Hs' H' rs' → Q a Hs' H' rs' → Q' a Hs' H' rs') : Post B sa W Hs H rs r Q' := by
  cases r with
  | ok a rs' => exact fun Hs' H' e' => k _ _ _ _ e' (h Hs' H' e')
  | exc c d rs' => exact h
  | stuck => exact h
/-- one step of a chain -/
theorem Post.bind {m : M α} {f : α → M β} {Q : β → Hp → Hp → Rg → Prop} {Q' : α → Hp → Hp → Rg → Prop} (h : Post B sa W Hs H rs (M.bind m f rs) Q)
    (k : ∀ a Hs' H' rs', Ext B sa Hs H rs Hs' H' rs' → Post B sa W Hs' H' rs' (f a rs') Q → Q' a Hs' H' rs') : Post B sa W Hs H rs (m rs) Q' := by
  unfold M.bind at h
  cases e : m rs with
  | ok a rs' =>
    rw [e] at h
    exact fun Hs' H' e' => k _ _ _ _ e' (Post.shift e' h)
  | exc c d rs' => rw [e] at h; exact h
  | stuck => rw [e] at h; exact h
theorem Post.optSome {o : Option α} {Q : α → Hp → Hp → Rg → Prop} (h : Post B sa W Hs H rs (M.opt o rs) Q) : ∃ a, o = some a ∧ ∀ Hs' H', Ext B sa Hs H rs Hs' H' rs → Q a Hs' H' rs := by
  cases o with
  | none => exact h.elim
  | some a => exact ⟨a, rfl, h⟩
theorem Post.okk {a : α} {Q : α → Hp → Hp → Rg → Prop} (h : Post B sa W Hs H rs (M.ok a rs) Q) : ∀ Hs' H', Ext B sa Hs H rs Hs' H' rs → Q a Hs' H' rs := h
end
/-- an operand: shared data, or an own list's contents -/
def RpO (B : Bd) (sa : Addr) (Hs H : Hp) (d : D) (v : V) : Prop :=
  Rp B.K B.cn sa Hs d v ∨ ∃ s a, SV.isOwn s = true ∧ d = svD s ∧ v = .ref a ∧ a ≠ sa ∧ OwnAt B sa Hs H a s
def RpB (B : Bd) (sa : Addr) (pk : Bool) (Hs H : Hp) (d : D) (v : V) : Prop := if pk = true then RpO B sa Hs H d v else Rp B.K B.cn sa Hs d v
/-- a fresh thing stands apart -/
def RpF (B : Bd) (sa : Addr) (Hh Hs H : Hp) (d : D) (v : V) : Prop :=
  match d with
  | .lst xs => ∃ a, v = .ref a ∧ Hh a = none ∧ OwnAt B sa Hs H a (.ol xs)
  | .dic t ks vs => ∃ a, v = .ref a ∧ Hh a = none ∧ OwnAt B sa Hs H a (.od t ks vs)
  | d => Rp B.K B.cn sa Hs d v
theorem RpO.mono {B : Bd} {sa : Addr} {Hs H Hs1 H1 : Hp} {rs rs1 : Rg} {d : D} {v : V} (e : Ext B sa Hs H rs Hs1 H1 rs1) (h : RpO B sa Hs H d v) : RpO B sa Hs1 H1 d v := by
  rcases h with h | ⟨s, a, h1, h2, h3, h4, h5⟩
  · exact .inl (Rp.mono e.ss _ _ h)
  · exact .inr ⟨s, a, h1, h2, h3, h4, h5.mono e h4⟩
theorem RpB.o {B : Bd} {sa : Addr} {Hs H : Hp} {pk : Bool} {d : D} {v : V} (h : RpB B sa pk Hs H d v) : RpO B sa Hs H d v := by
  unfold RpB at h
  split at h
  · exact h
  · exact .inl h
theorem RpB.of {B : Bd} {sa : Addr} {Hs H : Hp} {pk : Bool} {d : D} {v : V} (h : Rp B.K B.cn sa Hs d v) : RpB B sa pk Hs H d v := by
  unfold RpB
  split
  · exact .inl h
  · exact h
section
variable (B : Bd) (G : Cfg) (W : WX)
def tE (pk : Bool) (e : E) : TE := fun σ H Q => ∃ sa Hs0 H0 rs0 Hs rs ρ, SR B sa Hs0 H0 rs0 Hs H rs ρ σ ∧
  Post B sa (fun cls dd H' => W cls dd σ H') Hs H rs (evalE G pk e ρ rs) fun d Hs' H' _ => ∀ v, RpB B sa pk Hs' H' d v → Q v H'
def tF (e : E) : TE := fun σ H Q => ∃ sa Hs0 H0 rs0 Hs rs ρ, SR B sa Hs0 H0 rs0 Hs H rs ρ σ ∧
  Post B sa (fun cls dd H' => W cls dd σ H') Hs H rs (evalE G false e ρ rs) fun d Hs' H' _ => ∀ v, RpF B sa H Hs' H' d v → Q v H'
def tT (e : E) : TT := fun σ H Q => ∃ sa Hs0 H0 rs0 Hs rs ρ, SR B sa Hs0 H0 rs0 Hs H rs ρ σ ∧
  Post B sa (fun cls dd H' => W cls dd σ H') Hs H rs (evalE G true e ρ rs) fun d Hs' H' _ => ∃ b, d = .bl b ∧ Q b H'
def tAr (pk : Bool) (es : Es) : TA := fun σ H Q => ∃ sa Hs0 H0 rs0 Hs rs ρ, SR B sa Hs0 H0 rs0 Hs H rs ρ σ ∧
  Post B sa (fun cls dd H' => W cls dd σ H') Hs H rs (evalEs G pk es ρ rs) fun ds Hs' H' _ => ∀ vs, (ds.length = vs.length ∧ ∀ (i : Nat) d v, ds[i]? = some d → vs[i]? = some v → RpB B sa pk Hs' H' d v) → Q vs H'
end
section
variable {B : Bd} {G : Cfg} {W : WX} {sa : Addr} {Hs0 H0 Hs H : Hp} {rs0 rs : Rg} {ρ : Env} {σ : St} {β : Type}
/-- the part e of a chain -/
theorem toE {pk : Bool} {e : E} {f : D → M β} {Q : β → Hp → Hp → Rg → Prop} {R : VK} (sr : SR B sa Hs0 H0 rs0 Hs H rs ρ σ)
    (h : Post B sa (fun cls dd H' => W cls dd σ H') Hs H rs (M.bind (evalE G pk e ρ) f rs) Q)
    (k : ∀ d Hs1 H1 rs1 v, Ext B sa Hs H rs Hs1 H1 rs1 → SR B sa Hs0 H0 rs0 Hs1 H1 rs1 ρ σ → RpB B sa pk Hs1 H1 d v → Post B sa (fun cls dd H' => W cls dd σ H') Hs1 H1 rs1 (f d rs1) Q → R v H1) : tE B G W pk e σ H R :=
  ⟨sa, Hs0, H0, rs0, Hs, rs, ρ, sr, Post.bind h fun d Hs1 H1 rs1 e' p v r => k d Hs1 H1 rs1 v e' (sr.mono e') r p⟩
theorem toT {e : E} {f : D → M β} {Q : β → Hp → Hp → Rg → Prop} {R : Bool → Hp → Prop} (sr : SR B sa Hs0 H0 rs0 Hs H rs ρ σ)
    (h : Post B sa (fun cls dd H' => W cls dd σ H') Hs H rs (M.bind (evalE G true e ρ) f rs) Q)
    (k : ∀ d Hs1 H1 rs1, Ext B sa Hs H rs Hs1 H1 rs1 → SR B sa Hs0 H0 rs0 Hs1 H1 rs1 ρ σ → Post B sa (fun cls dd H' => W cls dd σ H') Hs1 H1 rs1 (f d rs1) Q → ∃ b, d = .bl b ∧ R b H1) : tT B G W e σ H R :=
  ⟨sa, Hs0, H0, rs0, Hs, rs, ρ, sr, Post.bind h fun d Hs1 H1 rs1 e' p => k d Hs1 H1 rs1 e' (sr.mono e') p⟩
theorem toA {pk : Bool} {es : Es} {f : List D → M β} {Q : β → Hp → Hp → Rg → Prop} {R : List V → Hp → Prop} (sr : SR B sa Hs0 H0 rs0 Hs H rs ρ σ)
    (h : Post B sa (fun cls dd H' => W cls dd σ H') Hs H rs (M.bind (evalEs G pk es ρ) f rs) Q)
    (k : ∀ ds Hs1 H1 rs1 vs, Ext B sa Hs H rs Hs1 H1 rs1 → SR B sa Hs0 H0 rs0 Hs1 H1 rs1 ρ σ → (ds.length = vs.length ∧ ∀ (i : Nat) d v, ds[i]? = some d → vs[i]? = some v → RpB B sa pk Hs1 H1 d v) →
      Post B sa (fun cls dd H' => W cls dd σ H') Hs1 H1 rs1 (f ds rs1) Q → R vs H1) : tAr B G W pk es σ H R :=
  ⟨sa, Hs0, H0, rs0, Hs, rs, ρ, sr, Post.bind h fun d Hs1 H1 rs1 e' p v r => k d Hs1 H1 rs1 v e' (sr.mono e') r p⟩
/-- what is frozen may be had fresh -/
theorem tE_tF {pk : Bool} {e : E} (hpk : ∀ pk ρ rs, evalE G pk e ρ rs = evalE G false e ρ rs) {Q : VK} (h : tE B G W pk e σ H Q) : tF B G W e σ H Q := by
  obtain ⟨sa, Hs0, H0, rs0, Hs, rs, ρ, sr, p⟩ := h
  rw [hpk] at p
  refine ⟨sa, Hs0, H0, rs0, Hs, rs, ρ, sr, ?_⟩
  cases er : evalE G false e ρ rs with
  | exc c d rs' => rw [er] at p; exact p
  | stuck => rw [er] at p; exact p
  | ok d rs' =>
    rw [er] at p
    have fin : ∀ (Hs' H' : Hp) (a : Addr) (o : HO), Ext B sa Hs H rs Hs' H' rs' → H a = none → Hs' a = none → H' a = some o → Ext B sa Hs H rs (upd Hs' a o) H' rs' := fun Hs' H' a o e ha hs hp => by
      have n : a ≠ sa := fun z => sr.wd.sne (z ▸ ha)
      have ss : Same Hs' (upd Hs' a o) := fun b u e => by rw [upd_ne (ne_of_none e hs)]; exact e
      refine ⟨e.wd.share hp hs n, e.ss.trans ss, e.keep, fun b u h q k => ?_, e.som⟩
      have hb : b ≠ a := ne_of_none q ha
      rw [upd_ne hb]; exact e.new b u h q k
    intro Hs' H' e v r
    cases d with
    | lst xs =>
      obtain ⟨a, rfl, ha, hs, vs, h2, h3⟩ := r
      have ss : Same Hs' (upd Hs' a (.lst vs)) := fun b u e => by rw [upd_ne (ne_of_none e hs)]; exact e
      exact p _ _ (fin Hs' H' a _ e ha hs h2) _ (RpB.of ⟨a, vs, rfl, upd_same, Rps.mono ss _ _ h3⟩)
    | dic t ks ds =>
      obtain ⟨a, rfl, ha, ho⟩ := r
      cases t with
      | false =>
        obtain ⟨hs, kk, vs, h2, h3, h4, h5⟩ := ho
        have ss : Same Hs' (upd Hs' a (.dK (kk.zip vs))) := fun b u e => by rw [upd_ne (ne_of_none e hs)]; exact e
        exact p _ _ (fin Hs' H' a _ e ha hs h2) _ (RpB.of ⟨a, kk, vs, rfl, upd_same, h3, h4, Rps.mono ss _ _ h5⟩)
      | true =>
        obtain ⟨hs, kk, vs, h2, h3, h4, h5⟩ := ho
        have ss : Same Hs' (upd Hs' a (.dT (kk.zip vs))) := fun b u e => by rw [upd_ne (ne_of_none e hs)]; exact e
        exact p _ _ (fin Hs' H' a _ e ha hs h2) _ (RpB.of ⟨a, kk, vs, rfl, upd_same, h3, h4, Rps.mono ss _ _ h5⟩)
    | non => exact p _ _ e _ (RpB.of r)
    | bl b => exact p _ _ e _ (RpB.of r)
    | int i => exact p _ _ e _ (RpB.of r)
    | str x => exact p _ _ e _ (RpB.of r)
    | tup xs => exact p _ _ e _ (RpB.of r)
    | scr xs => exact p _ _ e _ (RpB.of r)
    | ktp xs => exact p _ _ e _ (RpB.of r)
    | obj c fs => exact p _ _ e _ (RpB.of r)
    | st => exact p _ _ e _ (RpB.of r)
end
theorem PE.imp {X : Cx} {e : Expr} {t t' : TE} (h : PE X e t) (k : ∀ σ H Q, t' σ H Q → t σ H Q) : PE X e t' := ⟨fun pins s σ H Q I q => h.run pins s σ H Q I (k σ H Q q)⟩
theorem PT.imp {X : Cx} {e : Expr} {t t' : TT} (h : PT X e t) (k : ∀ σ H Q, t' σ H Q → t σ H Q) : PT X e t' := ⟨fun pins s σ H Q I q => h.run pins s σ H Q I (k σ H Q q)⟩
theorem PA.imp {X : Cx} {e : List Expr} {t t' : TA} (h : PA X e t) (k : ∀ σ H Q, t' σ H Q → t σ H Q) : PA X e t' := ⟨fun pos pins s σ H Q I q => h.run pos pins s σ H Q I (k σ H Q q)⟩
theorem PS.imp {X : Cx} {e : Stmt} {t t' : TS} (h : PS X e t) (k : ∀ D σ H, t' D σ H → t D σ H) : PS X e t' := ⟨fun pins s σ H D I q => h.run pins s σ H D I (k D σ H q)⟩
theorem PSs.imp {X : Cx} {e : List Stmt} {t t' : TS} (h : PSs X e t) (k : ∀ D σ H, t' D σ H → t D σ H) : PSs X e t' := ⟨fun pins s σ H D I q => h.run pins s σ H D I (k D σ H q)⟩
end Mp

set_option Elab.async false
set_option linter.all false
set_option maxRecDepth 100000
set_option maxHeartbeats 1000000
/-! Mp, part 4: operators by values. -/
namespace Mp
open PySem L2

section
variable {B : Bd} {sa : Addr} {Hs H : Hp} {v : V}
theorem rpo_ns {d : D} (h : RpO B sa Hs H d v) (n : ∀ s, SV.isOwn s = true → d ≠ svD s) : Rp B.K B.cn sa Hs d v := by
  rcases h with h | ⟨s, a, h1, h2, _⟩
  · exact h
  · exact absurd h2 (n s h1)
theorem rpo_int {i : Int} (h : RpO B sa Hs H (.int i) v) : v = .int i := rpo_ns h fun s h => by cases s <;> simp [SV.isOwn, svD] at h ⊢
theorem rpo_bl {i : Bool} (h : RpO B sa Hs H (.bl i) v) : v = .bl i := rpo_ns h fun s h => by cases s <;> simp [SV.isOwn, svD] at h ⊢
theorem rpo_non (h : RpO B sa Hs H .non v) : v = .non := rpo_ns h fun s h => by cases s <;> simp [SV.isOwn, svD] at h ⊢
theorem rpo_str {i : Str} (h : RpO B sa Hs H (.str i) v) : v = .str i := rpo_ns h fun s h => by cases s <;> simp [SV.isOwn, svD] at h ⊢
theorem rpo_st (h : RpO B sa Hs H .st v) : v = .ref sa := rpo_ns h fun s h => by cases s <;> simp [SV.isOwn, svD] at h ⊢
theorem rpo_tup' {xs : List D} (h : RpO B sa Hs H (.tup xs) v) : Rp B.K B.cn sa Hs (.tup xs) v := rpo_ns h fun s h => by cases s <;> simp [SV.isOwn, svD] at h ⊢
theorem rpo_tup {xs : List D} (w : Same Hs H) (h : RpO B sa Hs H (.tup xs) v) : ∃ a vs, v = .ref a ∧ H a = some (.tup vs) ∧ Rps B.K B.cn sa Hs xs vs := by
  obtain ⟨a, vs, h1, h2, h3⟩ := rpo_tup' h
  exact ⟨a, vs, h1, w _ _ h2, h3⟩
theorem rpo_ktp {xs : List D} (w : Same Hs H) (h : RpO B sa Hs H (.ktp xs) v) : ∃ a vs, v = .ref a ∧ SqT B.K H a vs ∧ Rps B.K B.cn sa Hs xs vs := by
  obtain ⟨a, vs, h1, h2, h3⟩ := rpo_ns h fun s h => by cases s <;> simp [SV.isOwn, svD] at h ⊢
  exact ⟨a, vs, h1, sqT_mono w h2, h3⟩
theorem rpo_lst {xs : List D} (w : Same Hs H) (h : RpO B sa Hs H (.lst xs) v) : ∃ a vs, v = .ref a ∧ H a = some (.lst vs) ∧ Rps B.K B.cn sa Hs xs vs := by
  rcases h with ⟨a, vs, h1, h2, h3⟩ | ⟨s, a, h1, h2, h3, h4, h5⟩
  · exact ⟨a, vs, h1, w _ _ h2, h3⟩
  · cases s with
    | d x => cases h1
    | ol ys =>
      simp only [svD] at h2
      cases h2
      obtain ⟨_, vs, h6, h7⟩ := h5
      exact ⟨a, vs, h3, h6, h7⟩
    | od t ks vs => simp [svD] at h2
theorem rpo_scr {xs : List D} (w : Same Hs H) (h : RpO B sa Hs H (.scr xs) v) : ∃ a vs, v = .ref a ∧ SqL B.K H a vs ∧ Rps B.K B.cn sa Hs xs vs := by
  obtain ⟨a, vs, h1, h2, h3⟩ := rpo_ns h fun s h => by cases s <;> simp [SV.isOwn, svD] at h ⊢
  exact ⟨a, vs, h1, w.seq h2, h3⟩
theorem rpo_dicK {ks ds : List D} (w : Same Hs H) (h : RpO B sa Hs H (.dic false ks ds) v) : ∃ (a : Addr) (kk : List Key) (vs : List V), v = .ref a ∧ H a = some (.dK (kk.zip vs)) ∧ kk.length = vs.length ∧ ks = kk.map kD ∧ Rps B.K B.cn sa Hs ds vs := by
  rcases h with ⟨a, kk, vs, h1, h2, h3⟩ | ⟨s, a, h1, h2, h3, h4, h5⟩
  · exact ⟨a, kk, vs, h1, w _ _ h2, h3⟩
  · cases s with
    | d x => cases h1
    | ol ys => simp [svD] at h2
    | od t ks vs =>
      simp only [svD] at h2
      cases h2
      obtain ⟨_, kk, vs, h6⟩ := h5
      exact ⟨a, kk, vs, h3, h6⟩
theorem rpo_dicT {ks ds : List D} (w : Same Hs H) (h : RpO B sa Hs H (.dic true ks ds) v) : ∃ (a : Addr) (kk : List (List Key)) (vs : List V), v = .ref a ∧ H a = some (.dT (kk.zip vs)) ∧ kk.length = vs.length ∧ ks = kk.map kDs ∧ Rps B.K B.cn sa Hs ds vs := by
  rcases h with ⟨a, kk, vs, h1, h2, h3⟩ | ⟨s, a, h1, h2, h3, h4, h5⟩
  · exact ⟨a, kk, vs, h1, w _ _ h2, h3⟩
  · cases s with
    | d x => cases h1
    | ol ys => simp [svD] at h2
    | od t ks vs =>
      simp only [svD] at h2
      cases h2
      obtain ⟨_, kk, vs, h6⟩ := h5
      exact ⟨a, kk, vs, h3, h6⟩
/-- as the library's data -/
theorem rpo_dp {d : D} {p : PyData} (w : Same Hs H) (h : RpO B sa Hs H d v) (e : d.py = some p) : Dp B.K H v p := by
  rcases h with h | ⟨s, a, h1, h2, h3, h4, h5⟩
  · exact Rp.dp d v p (Rp.mono w _ _ h) e
  · cases s with
    | d x => cases h1
    | ol ys =>
      subst h2 h3
      obtain ⟨_, vs, h6, h7⟩ := h5
      simp only [svD, D.py] at e
      split at e
      · rename_i l hl
        cases e
        exact .lst (SqL.of h6) (Rps.dp ys vs l (Rps.mono w _ _ h7) hl)
      · cases e
    | od t ks vs => subst h2; cases e
end

/-! ### plain data -/
mutual
theorem D.py_plain : ∀ (d : D) (p : PyData), d.py = some p → p.plain = true
  | .non, _, e => by cases e; rfl
  | .bl _, _, e => by cases e; rfl
  | .int _, _, e => by cases e; rfl
  | .str _, _, e => by cases e; rfl
  | .tup xs, p, e => by
    simp only [D.py] at e
    split at e
    · rename_i l hl; cases e; simp only [PyData.plain]; exact D.pys_plain xs l hl
    · cases e
  | .lst xs, p, e => by
    simp only [D.py] at e
    split at e
    · rename_i l hl; cases e; simp only [PyData.plain]; exact D.pys_plain xs l hl
    · cases e
  | .scr _, _, e => by cases e
  | .ktp _, _, e => by cases e
  | .dic _ _ _, _, e => by cases e
  | .obj _ _, _, e => by cases e
  | .st, _, e => by cases e
theorem D.pys_plain : ∀ (ds : List D) (l : List PyData), D.pys ds = some l → PyData.plainAll l = true
  | [], _, e => by cases e; rfl
  | x :: r, l, e => by
    simp only [D.pys] at e
    split at e
    · rename_i a ha
      split at e
      · rename_i l' hl
        cases e
        simp only [PyData.plainAll, D.py_plain x a ha, D.pys_plain r l' hl, Bool.and_self]
      · cases e
    · cases e
end

/-! ### two-place operations -/
def rBin (B : Bd) (op : Bop) : R2 := fun x y H Q => ∃ sa Hs rs d e z, Wd B sa Hs H rs ∧ RpO B sa Hs H d x ∧ RpO B sa Hs H e y ∧ evalBin op d e = some z ∧
  ∀ Hs' H', Ext B sa Hs H rs Hs' H' rs → ∀ v, RpF B sa H Hs' H' z v → Q v H'
def bopOp : Bop → Operator
  | .add => .Add | .sub => .Sub | .mul => .Mult | .fdiv => .FloorDiv | .mod => .Mod | .pow => .Pow
theorem lim_eq : lim = sizeLine := by rw [sizeLine_eq]; rfl
theorem OpR.imp {X : Cx} {f : Value → Value → Sem Value} {r r' : R2} (h : OpR X f r) (k : ∀ x y H Q, r' x y H Q → r x y H Q) : OpR X f r' := fun pins s σ H x y v u Q I rx ry q => h pins s σ H x y v u Q I rx ry (k _ _ _ _ q)
/-- by cases on what is told -/
theorem OpR.cases {X : Cx} {f : Value → Value → Sem Value} {r' : R2} (h : ∀ x y H Q, r' x y H Q → ∃ r : R2, OpR X f r ∧ r x y H Q) : OpR X f r' := fun pins s σ H x y v u Q I rx ry q => by
  obtain ⟨r, hr, q'⟩ := h x y H Q q
  exact hr pins s σ H x y v u Q I rx ry q'
section
variable {X : Cx} {B : Bd}
theorem small_iff {i : Int} (h : small i = true) : -(2 ^ 64) < i ∧ i < 2 ^ 64 := of_decide_eq_true h
theorem rpf_int {sa : Addr} {Hh Hs H : Hp} {i : Int} : RpF B sa Hh Hs H (.int i) (.int i) := rfl
theorem rpf_bl {sa : Addr} {Hh Hs H : Hp} {i : Bool} : RpF B sa Hh Hs H (.bl i) (.bl i) := rfl
theorem rpf_str {sa : Addr} {Hh Hs H : Hp} {i : Str} : RpF B sa Hh Hs H (.str i) (.str i) := rfl
/-- a new tuple -/
theorem fin_tup {sa : Addr} {Hs H : Hp} {rs : Rg} {zs : List D} {vs : List V} {Q : VK} {p : Addr} (w : Wd B sa Hs H rs) (hp : H p = none) (r : Rps B.K B.cn sa Hs zs vs) (q : ∀ Hs' H', Ext B sa Hs H rs Hs' H' rs → ∀ v, RpF B sa H Hs' H' (.tup zs) v → Q v H') : Q (.ref p) (upd H p (.tup vs)) := by
  have e := w.alloc (o := .tup vs) hp
  exact q _ _ e _ ⟨p, vs, rfl, upd_same, Rps.mono e.ss _ _ r⟩
/-- a new list -/
theorem fin_lst {sa : Addr} {Hs H : Hp} {rs : Rg} {zs : List D} {vs : List V} {Q : VK} {p : Addr} (w : Wd B sa Hs H rs) (hp : H p = none) (r : Rps B.K B.cn sa Hs zs vs) (q : ∀ Hs' H', Ext B sa Hs H rs Hs' H' rs → ∀ v, RpF B sa H Hs' H' (.lst zs) v → Q v H') : Q (.ref p) (upd H p (.lst vs)) := by
  have e := w.allocO (o := .lst vs) hp
  have hs : Hs p = none := by
    cases q' : Hs p with
    | none => rfl
    | some u => rw [w.sub p u q'] at hp; cases hp
  exact q _ _ e _ ⟨p, rfl, hp, hs, vs, upd_same, r⟩
theorem opAdd (hK : X.K = B.K) : OpR X (binaryOp .Add) (rBin B .add) := OpR.cases fun x y H Q h => by
  obtain ⟨sa, Hs, rs, d, e, z, w, rd, re, hz, q⟩ := h
  unfold evalBin at hz
  split at hz <;> rename_i h1
  all_goals first | (cases h1; done) | skip
  · rename_i i j
    cases hz
    exact ⟨_, op_add, i, j, rpo_int rd, rpo_int re, q _ _ w.refl _ rpf_int⟩
  · rename_i a b
    split at hz
    · rename_i hl
      cases hz
      obtain ⟨p1, vs1, rfl, h2, h3⟩ := rpo_tup w.sub rd
      obtain ⟨p2, vs2, rfl, h4, h5⟩ := rpo_tup w.sub re
      have rp1 := rpo_tup' rd
      have rp2 := rpo_tup' re
      refine ⟨_, op_catA, p1, p2, vs1, vs2, rfl, rfl, SqT.of h2, SqT.of h4, by rw [← h3.length, ← h5.length, ← lim_eq]; exact hl, fun e1 => ?_, fun _ e2 => ?_, fun _ _ p hp => ?_⟩
      · subst e1
        have : a = [] := List.eq_nil_of_length_eq_zero (by rw [h3.length]; rfl)
        subst this
        exact q _ _ w.refl _ rp2
      · subst e2
        have : b = [] := List.eq_nil_of_length_eq_zero (by rw [h5.length]; rfl)
        subst this
        rw [List.append_nil] at q
        exact q _ _ w.refl _ rp1
      · exact fin_tup w hp (h3.append h5) q
    · cases hz
  · rename_i a b
    split at hz
    · rename_i hl
      cases hz
      obtain ⟨p1, vs1, rfl, h2, h3⟩ := rpo_lst w.sub rd
      obtain ⟨p2, vs2, rfl, h4, h5⟩ := rpo_lst w.sub re
      exact ⟨_, op_cat, p1, p2, vs1, vs2, rfl, rfl, h2, h4, by rw [← h3.length, ← h5.length, ← lim_eq]; exact hl, fun p hp => fin_lst w hp (h3.append h5) q⟩
    · cases hz
  · rename_i a b
    split at hz
    · rename_i hl
      cases hz
      exact ⟨_, op_add_str, a, b, rpo_str rd, rpo_str re, by rw [← lim_eq]; exact hl, q _ _ w.refl _ rpf_str⟩
    · cases hz
  · cases hz
theorem opSub (hK : X.K = B.K) : OpR X (binaryOp .Sub) (rBin B .sub) := OpR.cases fun x y H Q h => by
  obtain ⟨sa, Hs, rs, d, e, z, w, rd, re, hz, q⟩ := h
  unfold evalBin at hz
  split at hz <;> rename_i h1
  all_goals first | (cases h1; done) | skip
  · rename_i i j
    cases hz
    exact ⟨_, op_sub, i, j, rpo_int rd, rpo_int re, q _ _ w.refl _ rpf_int⟩
  · cases hz
theorem opDiv (hK : X.K = B.K) : OpR X (binaryOp .FloorDiv) (rBin B .fdiv) := OpR.cases fun x y H Q h => by
  obtain ⟨sa, Hs, rs, d, e, z, w, rd, re, hz, q⟩ := h
  unfold evalBin at hz
  split at hz <;> rename_i h1
  all_goals first | (cases h1; done) | skip
  · rename_i i j
    split at hz
    · rename_i hc
      cases hz
      exact ⟨_, op_fdivN, i, j, rpo_int rd, rpo_int re, hc, q _ _ w.refl _ rpf_int⟩
    · cases hz
  · cases hz
theorem opMod (hK : X.K = B.K) : OpR X (binaryOp .Mod) (rBin B .mod) := OpR.cases fun x y H Q h => by
  obtain ⟨sa, Hs, rs, d, e, z, w, rd, re, hz, q⟩ := h
  unfold evalBin at hz
  split at hz <;> rename_i h1
  all_goals first | (cases h1; done) | skip
  · rename_i i j
    split at hz
    · rename_i hc
      cases hz
      exact ⟨_, op_modN, i, j, rpo_int rd, rpo_int re, hc, q _ _ w.refl _ rpf_int⟩
    · cases hz
  · cases hz
theorem opPow (hK : X.K = B.K) : OpR X (binaryOp .Pow) (rBin B .pow) := OpR.cases fun x y H Q h => by
  obtain ⟨sa, Hs, rs, d, e, z, w, rd, re, hz, q⟩ := h
  unfold evalBin at hz
  split at hz <;> rename_i h1
  all_goals first | (cases h1; done) | skip
  · rename_i i j
    split at hz
    · rename_i hc
      cases hz
      exact ⟨_, op_pow, i, j, rpo_int rd, rpo_int re, hc, q _ _ w.refl _ rpf_int⟩
    · cases hz
  · cases hz
end
end Mp

set_option Elab.async false
set_option linter.all false
set_option maxRecDepth 100000
set_option maxHeartbeats 4000000
/-! Mp, part 5: tuple * int of any small count. -/
namespace Mp
open PySem PySem.Spec PyProof.Rows L2

theorem tuple_mulS (l : Addr) (items : Array Value) (n : Nat) (sl : Array (Option Value)) (x : Int) (u : Tok) (c0 : (decide (x < -(2 ^ 63)) || decide (x ≥ 2 ^ 63)) = false) (c1 : (items.isEmpty || x == 1) = true) :
    Meets (Builtin.«tuple.__mul__» ⟨[.ref l, .int x u], []⟩) (fun _ R s => (∃ dd, s.heap.get? l = some { cls := .type "tuple", dict := dd, data := .seq items n, slots := sl }) ∧
      R (.ok (.ret (Value.ref l))) s) :=
  .of_wp fun prog w A R s h => by
    obtain ⟨hp, g, d, tk, os⟩ := s
    obtain ⟨⟨dd, hl⟩, h⟩ := h
    have f1 := AutoSeq1.idx_int
    wp_walk using wpAny_loadPart' hl
    repeat (first
      | (refine wpAny_ite_false (decide_eq_false (by rw [c0]; exact Bool.false_ne_true)) ?_; wp_walk using wpAny_loadPart' hl)
      | (refine wpAny_ite_true (decide_eq_true c1) ?_; wp_walk using wpAny_loadPart' hl))
    exact ⟨_, rfl, h⟩
theorem tuple_mulZ (l : Addr) (items : Array Value) (n : Nat) (sl : Array (Option Value)) (x : Int) (u : Tok) (c0 : (decide (x < -(2 ^ 63)) || decide (x ≥ 2 ^ 63)) = false) (c1 : (items.isEmpty || x == 1) = false) (c2 : (decide (x ≤ 0) || items.isEmpty) = true) :
    Meets (Builtin.«tuple.__mul__» ⟨[.ref l, .int x u], []⟩) (fun _ R s => (∃ dd, s.heap.get? l = some { cls := .type "tuple", dict := dd, data := .seq items n, slots := sl }) ∧
      R (.ok (.ret (Value.ref s.heap.objs.size))) { s with heap := s.heap.push { cls := Value.type "tuple", data := Data.seq #[] }, toks := s.toks }) :=
  .of_wp fun prog w A R s h => by
    obtain ⟨hp, g, d, tk, os⟩ := s
    obtain ⟨⟨dd, hl⟩, h⟩ := h
    have f1 := AutoSeq1.idx_int
    wp_walk using wpAny_loadPart' hl
    repeat (first
      | (refine wpAny_ite_false (decide_eq_false (by rw [c0]; exact Bool.false_ne_true)) ?_; wp_walk using wpAny_loadPart' hl)
      | (refine wpAny_ite_false (decide_eq_false (by rw [c1]; exact Bool.false_ne_true)) ?_; wp_walk using wpAny_loadPart' hl)
      | (refine wpAny_ite_true (decide_eq_true c2) ?_; wp_walk using wpAny_loadPart' hl))
    exact ⟨_, rfl, h⟩
def rRepA (K : PySem.W.Frag) : R2 := fun x y H Q => ∃ l k xs, x = .ref l ∧ y = .int k ∧ SqT K H l xs ∧ 0 ≤ k ∧ k ≤ 1000 ∧ xs.length ≤ 1000 ∧
  ((xs = [] ∨ k = 1) → Q (.ref l) H) ∧ ((xs ≠ [] ∧ k ≠ 1) → ∀ p, H p = none → Q (.ref p) (upd H p (.tup (List.replicate k.toNat xs).flatten)))
theorem op_repA {X : Cx} : OpR X (binaryOp .Mult) (rRepA X.K) := by
  intro pins s σ H x y v u Q I rx ry h
  obtain ⟨l, k, xs, e1, e2, hT, h1, h2, hz, qa, qb⟩ := h
  by_cases big : xs ≠ [] ∧ 2 ≤ k
  · exact op_repT pins s σ H x y v u Q I rx ry ⟨l, k, xs, e1, e2, hT, big.1, big.2, h2, hz, qb ⟨big.1, by omega⟩⟩
  · subst e1 e2
    cases rx
    obtain ⟨t, rfl⟩ := ry
    obtain ⟨its, r, ⟨⟨cls, dd, data, sl⟩, ho, hc, n, hd⟩, hs⟩ := I.tuple hT
    simp only at hc hd
    subst hc hd
    have hle : its.length = xs.length := r.length.symm
    have c0 : (decide (k < -(2 ^ 63)) || decide (k ≥ 2 ^ 63)) = false := by
      rw [decide_eq_false (by omega), decide_eq_false (by omega)] <;> rfl
    by_cases same : xs = [] ∨ k = 1
    · have c1 : (its.toArray.isEmpty || k == 1) = true := by
        rcases same with e | e
        · subst e
          have : its = [] := List.eq_nil_of_length_eq_zero hle
          subst this
          rfl
        · subst e
          rw [beq_self_eq_true, Bool.or_true]
      refine wpAny_binaryOp_repeat_ref (T := "tuple") (U := "int") (by decide) ⟨_, ho, rfl⟩ (fun s' => typeIs_int s' k t) noFill_tuple_mul F.fills_int_mul F.slot_int_rmul repeat_tuple F.slot_int_index.lookup
        (call_meets F.slot_int_rmul (typeIs_int s k t) F.entry_int_rmul (F.args_int_rmul_2 _ _) (int_rmul_tuple k t l its.toArray n dd sl)
          ⟨ho, rfl, ⟨_, ho, rfl⟩, call_meets F.slot_tuple_mul ⟨_, ho, rfl⟩ F.entry_tuple_mul (F.args_tuple_mul_2 _ _) (tuple_mulS l its.toArray n sl k t c0 c1) ⟨⟨_, ho⟩, ?_⟩⟩)
      exact ⟨.ref l, H, I, rfl, qa same⟩
    · have hx : xs ≠ [] := fun e => same (.inl e)
      have hk1 : k ≠ 1 := fun e => same (.inr e)
      have hk0 : k = 0 := by
        rcases Int.lt_or_le k 2 with z | z
        · omega
        · exact absurd ⟨hx, z⟩ big
      subst hk0
      have hi : its.toArray.isEmpty = false := by
        cases its with
        | nil => exact absurd (List.eq_nil_of_length_eq_zero hle.symm) hx
        | cons a b => rfl
      have c1 : (its.toArray.isEmpty || (0 : Int) == 1) = false := by
        rw [hi]; rfl
      have c2 : (decide ((0 : Int) ≤ 0) || its.toArray.isEmpty) = true := by
        rw [hi]; rfl
      refine wpAny_binaryOp_repeat_ref (T := "tuple") (U := "int") (by decide) ⟨_, ho, rfl⟩ (fun s' => typeIs_int s' 0 t) noFill_tuple_mul F.fills_int_mul F.slot_int_rmul repeat_tuple F.slot_int_index.lookup
        (call_meets F.slot_int_rmul (typeIs_int s 0 t) F.entry_int_rmul (F.args_int_rmul_2 _ _) (int_rmul_tuple 0 t l its.toArray n dd sl)
          ⟨ho, rfl, ⟨_, ho, rfl⟩, call_meets F.slot_tuple_mul ⟨_, ho, rfl⟩ F.entry_tuple_mul (F.args_tuple_mul_2 _ _) (tuple_mulZ l its.toArray n sl 0 t c0 c1 c2) ⟨⟨_, ho⟩, ?_⟩⟩)
      refine ⟨.ref s.heap.objs.size, _, I.laid (t' := s.toks) (o := .tup []) (fun b ob q => Heap.get?_push_of_some _ q) (Nat.le_refl _) ?_, rfl, qb ⟨hx, hk1⟩ _ (I.hok.fresh (Nat.le_refl _))⟩
      exact ⟨Nat.zero_le _, [], .nil, IsTup.new _ _⟩

section
variable {X : Cx} {B : Bd}
theorem Rps.rep {sa : Addr} {H : Hp} {ds : List D} {vs : List V} (h : Rps B.K B.cn sa H ds vs) : ∀ n : Nat, Rps B.K B.cn sa H (List.replicate n ds).flatten (List.replicate n vs).flatten
  | 0 => rfl
  | n + 1 => by
    rw [List.replicate_succ, List.replicate_succ, List.flatten_cons, List.flatten_cons]
    exact h.append (Rps.rep h n)
theorem opMul (hK : X.K = B.K) : OpR X (binaryOp .Mult) (rBin B .mul) := OpR.cases fun x y H Q h => by
  obtain ⟨sa, Hs, rs, d, e, z, w, rd, re, hz, q⟩ := h
  unfold evalBin at hz
  split at hz <;> rename_i h1
  all_goals first | (cases h1; done) | skip
  · rename_i i j
    split at hz
    · rename_i hc
      cases hz
      have hc' : CMul i j := by
        rcases Bool.or_eq_true_iff.mp hc with z | z
        · exact .inl (small_iff z)
        · exact .inr (small_iff z)
      exact ⟨_, op_mul, i, j, rpo_int rd, rpo_int re, hc', q _ _ w.refl _ rpf_int⟩
    · cases hz
  · rename_i a k
    split at hz
    · rename_i hc
      cases hz
      obtain ⟨p1, vs1, rfl, h2, h3⟩ := rpo_tup w.sub rd
      have rp1 := rpo_tup' rd
      have ek := rpo_int re
      have hl := h3.length
      refine ⟨_, op_repA, p1, k, vs1, rfl, ek, SqT.of h2, hc.1, hc.2.1, by omega, fun e1 => ?_, fun _ p hp => ?_⟩
      · have ea : (List.replicate k.toNat a).flatten = a := by
          rcases e1 with e1 | e1
          · subst e1
            have : a = [] := List.eq_nil_of_length_eq_zero hl
            subst this
            simp
          · subst e1
            simp
        rw [ea] at q
        exact q _ _ w.refl _ rp1
      · exact fin_tup w hp (Rps.rep h3 _) q
    · cases hz
  · rename_i a k
    split at hz
    · rename_i hc
      cases hz
      obtain ⟨p1, vs1, rfl, h2, h3⟩ := rpo_lst w.sub rd
      have ek := rpo_int re
      have hl := h3.length
      refine ⟨_, op_rep, p1, k, vs1, rfl, ek, h2, by omega, by omega, ?_, fun p hp => fin_lst w hp (Rps.rep h3 _) q⟩
      have a1 : vs1.length * k.toNat ≤ 1000 * 1000 := Nat.mul_le_mul (by omega) (by omega)
      rw [sizeLine_eq]; omega
    · cases hz
  · cases hz
theorem opBin (hK : X.K = B.K) : ∀ op, OpR X (binaryOp (bopOp op)) (rBin B op)
  | .add => opAdd hK
  | .sub => opSub hK
  | .mul => opMul hK
  | .fdiv => opDiv hK
  | .mod => opMod hK
  | .pow => opPow hK
end
end Mp

set_option Elab.async false
set_option linter.all false
set_option maxRecDepth 100000
set_option maxHeartbeats 1000000
/-! Mp, part 6: comparisons, subscripts by values. -/
namespace Mp
open PySem L2

/-! ### keys -/
theorem kD_py (k : Key) : ∃ p, (kD k).py = some p ∧ p.depth = 0 := by
  cases k with
  | inl i => exact ⟨_, rfl, by simp [PyData.depth]⟩
  | inr s => exact ⟨_, rfl, by simp [PyData.depth]⟩
theorem D.eq_int (i j : Int) : D.eq (.int i) (.int j) = some (i == j) := by
  simp [D.eq, D.py, PyData.depth, PyData.eqv]
theorem D.eq_str (i j : Str) : D.eq (.str i) (.str j) = some (i == j) := by
  simp [D.eq, D.py, PyData.depth, PyData.eqv]
theorem kD_eq (a b : Key) : D.eq (kD a) (kD b) = some (decide (a = b)) := by
  cases a with
  | inl i =>
    cases b with
    | inl j => rw [key_ll]; exact D.eq_int i j
    | inr t => simp [D.eq, kD, D.py, PyData.depth, PyData.eqv, key_lr]
  | inr s =>
    cases b with
    | inl j => simp [D.eq, kD, D.py, PyData.depth, PyData.eqv, key_rl]
    | inr t => rw [key_rr]; exact (D.eq_str s t).trans (by rw [Bool.beq_eq_decide_eq])
theorem eqv_kD (a b : Key) : ∀ p q, (kD a).py = some p → (kD b).py = some q → PyData.eqv p q = decide (a = b) := fun p q hp hq => by
  have e := kD_eq a b
  obtain ⟨p', h1, h2⟩ := kD_py a
  obtain ⟨q', h3, h4⟩ := kD_py b
  rw [h1] at hp; cases hp
  rw [h3] at hq; cases hq
  unfold D.eq at e
  rw [h1, h3] at e
  simp only at e
  rw [if_pos ⟨by omega, by omega⟩] at e
  exact Option.some.inj e
theorem kDs_py : ∀ (l : List Key), ∃ p, D.pys (l.map kD) = some p ∧ PyData.depthAll p = 0
  | [] => ⟨[], rfl, by simp [PyData.depthAll]⟩
  | a :: l => by
    obtain ⟨p, h1, h2⟩ := kD_py a
    obtain ⟨q, h3, h4⟩ := kDs_py l
    refine ⟨p :: q, ?_, ?_⟩
    · simp only [List.map_cons, D.pys, h1, h3]
    · simp [PyData.depthAll, h2, h4]
theorem eqvAll_kD : ∀ (a b : List Key) (p q : List PyData), D.pys (a.map kD) = some p → D.pys (b.map kD) = some q → PyData.eqvAll p q = decide (a = b)
  | [], [], _, _, hp, hq => by cases hp; cases hq; simp [PyData.eqvAll]
  | [], b :: bs, _, q, hp, hq => by
    cases hp
    obtain ⟨p, h1, _⟩ := kD_py b
    obtain ⟨p', h3, _⟩ := kDs_py bs
    simp only [List.map_cons, D.pys, h1, h3] at hq
    cases hq
    simp [PyData.eqvAll]
  | a :: as, [], p, _, hp, hq => by
    cases hq
    obtain ⟨p, h1, _⟩ := kD_py a
    obtain ⟨p', h3, _⟩ := kDs_py as
    simp only [List.map_cons, D.pys, h1, h3] at hp
    cases hp
    simp [PyData.eqvAll]
  | a :: as, b :: bs, _, _, hp, hq => by
    obtain ⟨p, h1, _⟩ := kD_py a
    obtain ⟨p', h3, _⟩ := kDs_py as
    obtain ⟨q, h4, _⟩ := kD_py b
    obtain ⟨q', h6, _⟩ := kDs_py bs
    simp only [List.map_cons, D.pys, h1, h3] at hp
    simp only [List.map_cons, D.pys, h4, h6] at hq
    cases hp; cases hq
    rw [PyData.eqvAll, eqv_kD a b p q h1 h4, eqvAll_kD as bs p' q' h3 h6]
    by_cases e : a = b
    · by_cases e' : as = bs
      · simp [e, e']
      · simp [e, e']
    · simp [e]
theorem kDs_eq (a b : List Key) : D.eq (kDs a) (kDs b) = some (decide (a = b)) := by
  obtain ⟨p, h1, h2⟩ := kDs_py a
  obtain ⟨q, h3, h4⟩ := kDs_py b
  simp only [D.eq, kDs, D.py, h1, h3, PyData.depth, h2, h4]
  rw [if_pos ⟨by omega, by omega⟩, PyData.eqv, eqvAll_kD a b p q h1 h3]
/-- a key of the dict's kind -/
theorem keyK {k : D} (h : keyOk false k = true) : ∃ x : Key, k = kD x := by
  cases k <;> first | exact ⟨.inl _, rfl⟩ | exact ⟨.inr _, rfl⟩ | cases h
theorem keyFlat_of : ∀ {xs : List D}, keyFlat xs = true → ∃ l : List Key, xs = l.map kD
  | [], _ => ⟨[], rfl⟩
  | x :: r, h => by
    cases x <;> first
      | (obtain ⟨l, rfl⟩ := keyFlat_of (xs := r) h; first | exact ⟨.inl _ :: l, rfl⟩ | exact ⟨.inr _ :: l, rfl⟩)
      | cases h
theorem keyT {k : D} (h : keyOk true k = true) : ∃ x : List Key, k = kDs x := by
  cases k <;> first
    | (obtain ⟨l, rfl⟩ := keyFlat_of h; exact ⟨l, rfl⟩)
    | cases h
theorem dget_valV {κ : Type} [DecidableEq κ] {f : κ → D} (hf : ∀ a b, D.eq (f a) (f b) = some (decide (a = b))) {B : Bd} {sa : Addr} {H : Hp} (k : κ) :
    ∀ (kk : List κ) (ds : List D) (vs : List V), kk.length = vs.length → Rps B.K B.cn sa H ds vs →
      (∀ d, dget (f k) (kk.map f) ds = some d → ∃ v, valV (kk.zip vs) k = some v ∧ Rp B.K B.cn sa H d v) ∧
      (∀ b : Bool, (∃ l a, D.pys (kk.map f) = some l ∧ (f k).py = some a ∧ b = l.any fun z => PyData.eqv z a) → b = (valV (kk.zip vs) k).isSome)
  | [], ds, vs, hl, r => by
    refine ⟨fun d e => by simp [dget] at e, fun b ⟨l, a, h1, h2, h3⟩ => ?_⟩
    cases h1
    subst h3
    rfl
  | x :: kk, ds, [], hl, r => by simp at hl
  | x :: kk, [], v :: vs, hl, r => by cases r
  | x :: kk, d :: ds, v :: vs, hl, ⟨v', r', h1, h2, h3⟩ => by
    cases h1
    obtain ⟨i1, i2⟩ := dget_valV hf k kk ds vs (by simpa using hl) h3
    refine ⟨fun e he => ?_, fun b ⟨l, a, h4, h5, h6⟩ => ?_⟩
    · simp only [List.map_cons, dget, hf] at he
      by_cases hx : x = k
      · subst hx
        simp only [decide_true] at he
        cases he
        exact ⟨v, valV_pos rfl, h2⟩
      · simp only [decide_eq_false hx] at he
        obtain ⟨w, e1, e2⟩ := i1 e he
        exact ⟨w, by rw [List.zip_cons_cons, valV_neg hx]; exact e1, e2⟩
    · simp only [List.map_cons, D.pys] at h4
      split at h4
      · rename_i p hp
        split at h4
        · rename_i l' hl'
          cases h4
          have q := i2 _ ⟨l', a, hl', h5, rfl⟩
          have ex : PyData.eqv p a = decide (x = k) := by
            have e := hf x k
            unfold D.eq at e
            rw [hp, h5] at e
            simp only at e
            split at e
            · exact Option.some.inj e
            · cases e
          subst h6
          rw [List.any_cons, ex, q]
          by_cases hx : x = k
          · subst hx
            simp only [decide_true, Bool.true_or]
            rw [List.zip_cons_cons, valV_pos rfl]; rfl
          · rw [decide_eq_false hx, Bool.false_or, List.zip_cons_cons, valV_neg hx]
        · cases h4
      · cases h4

/-! ### comparisons -/
def rCmp (B : Bd) (op : Cop) : R2 := fun x y H Q => ∃ sa Hs rs d e z, Wd B sa Hs H rs ∧ RpO B sa Hs H d x ∧ RpO B sa Hs H e y ∧ evalCmp op d e = some z ∧ Q (.bl z) H
def copOp : Cop → CmpOp
  | .lt => .Lt | .le => .LtE | .gt => .Gt | .ge => .GtE | .eq => .Eq | .ne => .NotEq | .is => .Is | .isn => .IsNot | .in_ => .In | .nin => .NotIn
theorem D.eq_some {d e : D} {b : Bool} (h : D.eq d e = some b) : ∃ p q, d.py = some p ∧ e.py = some q ∧ p.depth ≤ 60 ∧ q.depth ≤ 60 ∧ b = PyData.eqv p q := by
  unfold D.eq at h
  split at h
  · rename_i p q hp hq
    split at h
    · rename_i hd
      cases h
      exact ⟨p, q, hp, hq, hd.1, hd.2, rfl⟩
    · cases h
  · cases h
theorem inD_some {d : D} {xs : List D} {b : Bool} (h : inD d xs = some b) : ∃ a l, d.py = some a ∧ D.pys xs = some l ∧ a.depth ≤ 60 ∧ PyData.depthAll l ≤ 60 ∧ b = l.any fun z => PyData.eqv z a := by
  unfold inD at h
  split at h
  · rename_i p q hp hq
    split at h
    · rename_i hd
      cases h
      exact ⟨p, q, hp, hq, hd.1, hd.2, rfl⟩
    · cases h
  · cases h
section
variable {X : Cx} {B : Bd}
theorem opEq (hu : X.A.units + 64 < cLine) (hK : X.K = B.K) : OpR X (compareOp .Eq) (rCmp B .eq) := fun pins s σ H x y v u Q I rx ry h => by
  obtain ⟨sa, Hs, rs, d, e, z, w, rd, re, hz, q⟩ := h
  obtain ⟨p, p', hp, hp', h1, h2, rfl⟩ := D.eq_some hz
  obtain ⟨as, r1⟩ := Dp.reads I p x v (hK ▸ rpo_dp w.sub rd hp) rx
  obtain ⟨bs, r2⟩ := Dp.reads I p' y u (hK ▸ rpo_dp w.sub re hp') ry
  exact SeqAt.eq_plain r1 r2 (D.py_plain _ _ hp) (D.py_plain _ _ hp') (by have := Nat.min_le_left p.depth p'.depth; omega) ⟨.bl _, H, I, rfl, q⟩
theorem opNe (hu : X.A.units + 64 < cLine) (hK : X.K = B.K) : OpR X (compareOp .NotEq) (rCmp B .ne) := fun pins s σ H x y v u Q I rx ry h => by
  obtain ⟨sa, Hs, rs, d, e, z, w, rd, re, hz, q⟩ := h
  obtain ⟨b, hb, rfl⟩ : ∃ b, D.eq d e = some b ∧ z = !b := by
    simp only [evalCmp] at hz
    cases hb : D.eq d e with
    | none => rw [hb] at hz; cases hz
    | some b => rw [hb] at hz; cases hz; exact ⟨b, rfl, rfl⟩
  obtain ⟨p, p', hp, hp', h1, h2, rfl⟩ := D.eq_some hb
  obtain ⟨as, r1⟩ := Dp.reads I p x v (hK ▸ rpo_dp w.sub rd hp) rx
  obtain ⟨bs, r2⟩ := Dp.reads I p' y u (hK ▸ rpo_dp w.sub re hp') ry
  exact SeqAt.ne_plain r1 r2 (D.py_plain _ _ hp) (D.py_plain _ _ hp') (by have := Nat.min_le_left p.depth p'.depth; omega) ⟨.bl _, H, I, rfl, q⟩
theorem opLe (hK : X.K = B.K) : OpR X (compareOp .LtE) (rCmp B .le) := OpR.cases fun x y H Q h => by
  obtain ⟨sa, Hs, rs, d, e, z, w, rd, re, hz, q⟩ := h
  simp only [evalCmp] at hz
  split at hz
  · cases hz
    exact ⟨_, op_le, _, _, rpo_int rd, rpo_int re, q⟩
  · cases hz
theorem opGt (hK : X.K = B.K) : OpR X (compareOp .Gt) (rCmp B .gt) := OpR.cases fun x y H Q h => by
  obtain ⟨sa, Hs, rs, d, e, z, w, rd, re, hz, q⟩ := h
  simp only [evalCmp] at hz
  split at hz
  · cases hz
    exact ⟨_, op_gt, _, _, rpo_int rd, rpo_int re, q⟩
  · cases hz
theorem opGe (hK : X.K = B.K) : OpR X (compareOp .GtE) (rCmp B .ge) := OpR.cases fun x y H Q h => by
  obtain ⟨sa, Hs, rs, d, e, z, w, rd, re, hz, q⟩ := h
  simp only [evalCmp] at hz
  split at hz
  · cases hz
    exact ⟨_, op_ge, _, _, rpo_int rd, rpo_int re, q⟩
  · cases hz
theorem rps_keys {sa : Addr} {H : Hp} : ∀ {k : List Key} {ws : List V}, Rps B.K B.cn sa H (k.map kD) ws → ws = k.map kV
  | [], _, h => h
  | .inl i :: r, _, ⟨v', r', e1, e2, e3⟩ => by subst e1; rw [rps_keys e3, show v' = V.int i from e2]; rfl
  | .inr i :: r, _, ⟨v', r', e1, e2, e3⟩ => by subst e1; rw [rps_keys e3, show v' = V.str i from e2]; rfl
theorem rpo_none_iff {sa : Addr} {Hs H : Hp} {d : D} {v : V} (w : Same Hs H) (h : RpO B sa Hs H d v) : decide (v = .non) = d.isNon := by
  cases d with
  | non => rw [rpo_non h]; rfl
  | bl b => rw [rpo_bl h]; exact decide_eq_false (by intro z; cases z)
  | int i => rw [rpo_int h]; exact decide_eq_false (by intro z; cases z)
  | str x => rw [rpo_str h]; exact decide_eq_false (by intro z; cases z)
  | tup xs => obtain ⟨a, vs, rfl, _⟩ := rpo_tup w h; exact decide_eq_false (by intro z; cases z)
  | lst xs => obtain ⟨a, vs, rfl, _⟩ := rpo_lst w h; exact decide_eq_false (by intro z; cases z)
  | scr xs => obtain ⟨a, vs, rfl, _⟩ := rpo_scr w h; exact decide_eq_false (by intro z; cases z)
  | ktp xs => obtain ⟨a, vs, rfl, _⟩ := rpo_ktp w h; exact decide_eq_false (by intro z; cases z)
  | dic t ks vs =>
    cases t with
    | false => obtain ⟨a, _, _, rfl, _⟩ := rpo_dicK w h; exact decide_eq_false (by intro z; cases z)
    | true => obtain ⟨a, _, _, rfl, _⟩ := rpo_dicT w h; exact decide_eq_false (by intro z; cases z)
  | obj c fs =>
    obtain ⟨a, C, dx, ns, vs, rfl, _⟩ := rpo_ns h fun s h => by cases s <;> simp [SV.isOwn, svD] at h ⊢
    exact decide_eq_false (by intro z; cases z)
  | st => rw [rpo_st h]; exact decide_eq_false (by intro z; cases z)
theorem opIs (hK : X.K = B.K) : OpR X (compareOp .Is) (rCmp B .is) := OpR.cases fun x y H Q h => by
  obtain ⟨sa, Hs, rs, d, e, z, w, rd, re, hz, q⟩ := h
  simp only [evalCmp] at hz
  split at hz
  · cases hz
    refine ⟨_, op_isN, rpo_non re, ?_⟩
    rw [rpo_none_iff w.sub rd]
    exact q
  · split at hz
    · cases hz
      exact ⟨_, op_is_bl, _, _, rpo_bl rd, rpo_bl re, q⟩
    · cases hz
  · cases hz
theorem opIsn (hK : X.K = B.K) : OpR X (compareOp .IsNot) (rCmp B .isn) := OpR.cases fun x y H Q h => by
  obtain ⟨sa, Hs, rs, d, e, z, w, rd, re, hz, q⟩ := h
  simp only [evalCmp] at hz
  split at hz
  · cases hz
    refine ⟨_, op_notN, rpo_non re, ?_⟩
    rw [rpo_none_iff w.sub rd]
    exact q
  · split at hz
    · cases hz
      exact ⟨_, op_isnot_bl, _, _, rpo_bl rd, rpo_bl re, q⟩
    · cases hz
  · cases hz
theorem map_not {o : Option Bool} {z : Bool} (h : o.map (!·) = some z) : ∃ y, o = some y ∧ z = !y := by
  cases o with
  | none => cases h
  | some y => cases h; exact ⟨y, rfl, rfl⟩
theorem opIn (hu : X.A.units + 64 < cLine) (hK : X.K = B.K) : OpR X (compareOp .In) (rCmp B .in_) := fun pins s σ H x y v u Q I rx ry h => by
  obtain ⟨sa, Hs, rs, d, e, z, w, rd, re, hz, q⟩ := h
  simp only [evalCmp] at hz
  cases e <;> simp only at hz <;> try (cases hz; done)
  · rename_i b
    cases d <;> simp only at hz <;> try (cases hz; done)
    cases hz
    exact op_in_str pins s σ H x y v u Q I rx ry ⟨_, _, rpo_str rd, rpo_str re, q⟩
  · rename_i xs
    obtain ⟨a, l, ha, hl, h1, h2, rfl⟩ := inD_some hz
    obtain ⟨as, r1⟩ := Dp.reads I a x v (hK ▸ rpo_dp w.sub rd ha) rx
    obtain ⟨bs, r2⟩ := Dp.reads I (.tuple l) y u (hK ▸ rpo_dp w.sub re (by simp only [D.py, hl])) ry
    exact SeqAt.in_tuple_data r2 r1 (D.pys_plain _ _ hl) (D.py_plain _ _ ha) (by have := Nat.min_le_right (PyData.depthAll l) a.depth; omega) ⟨.bl _, H, I, rfl, q⟩
  · rename_i xs
    obtain ⟨a, l, ha, hl, h1, h2, rfl⟩ := inD_some hz
    obtain ⟨as, r1⟩ := Dp.reads I a x v (hK ▸ rpo_dp w.sub rd ha) rx
    obtain ⟨bs, r2⟩ := Dp.reads I (.list l) y u (hK ▸ rpo_dp w.sub re (by simp only [D.py, hl])) ry
    exact SeqAt.in_list_data r2 r1 (D.pys_plain _ _ hl) (D.py_plain _ _ ha) (by have := Nat.min_le_right (PyData.depthAll l) a.depth; omega) ⟨.bl _, H, I, rfl, q⟩
  · rename_i xs
    obtain ⟨a, l, ha, hl, h1, h2, rfl⟩ := inD_some hz
    obtain ⟨as, r1⟩ := Dp.reads I a x v (hK ▸ rpo_dp w.sub rd ha) rx
    obtain ⟨b, vs, rfl, h3, h4⟩ := rpo_ktp w.sub re
    obtain ⟨bs, r2⟩ := Dp.reads I (.tuple l) (.ref b) u (.tup (hK ▸ h3) (hK ▸ Rps.dp xs vs l (Rps.mono w.sub _ _ h4) hl)) ry
    exact SeqAt.in_tuple_data r2 r1 (D.pys_plain _ _ hl) (D.py_plain _ _ ha) (by have := Nat.min_le_right (PyData.depthAll l) a.depth; omega) ⟨.bl _, H, I, rfl, q⟩
  · rename_i t ks ds
    split at hz
    · rename_i hk
      obtain ⟨a, l, ha, hl, h1, h2, rfl⟩ := inD_some hz
      cases t with
      | false =>
        obtain ⟨k, rfl⟩ := keyK hk
        obtain ⟨b, kk, vs, rfl, h3, h4, rfl, h6⟩ := rpo_dicK w.sub re
        obtain rfl : u = Value.ref b := ry
        have ex : x = kV k := by cases k with
          | inl i => exact rpo_int rd
          | inr t => exact rpo_str rd
        have eb := (dget_valV kD_eq k kk ds vs h4 h6).2 _ ⟨l, a, hl, ha, rfl⟩
        refine d_in (by omega) I (DGet.k (k := k) h3) (ex ▸ rx) fun s' I' => ⟨.bl _, H, I', rfl, ?_⟩
        rw [← eb]; exact q
      | true =>
        obtain ⟨k, rfl⟩ := keyT hk
        obtain ⟨b, kk, vs, rfl, h3, h4, rfl, h6⟩ := rpo_dicT w.sub re
        obtain rfl : u = Value.ref b := ry
        obtain ⟨c, ws, rfl, h7, h8⟩ := rpo_tup w.sub rd
        have ew : ws = k.map kV := rps_keys h8
        have eb := (dget_valV kDs_eq k kk ds vs h4 h6).2 _ ⟨l, a, hl, ha, rfl⟩
        refine d_in (by omega) I (DGet.t (k := k) h3 (ew ▸ h7)) rx fun s' I' => ⟨.bl _, H, I', rfl, ?_⟩
        rw [← eb]; exact q
    · cases hz
theorem opNin (hu : X.A.units + 64 < cLine) (hK : X.K = B.K) : OpR X (compareOp .NotIn) (rCmp B .nin) := fun pins s σ H x y v u Q I rx ry h => by
  obtain ⟨sa, Hs, rs, d, e, z, w, rd, re, hz, q⟩ := h
  simp only [evalCmp] at hz
  cases e <;> simp only at hz <;> try (cases hz; done)
  · rename_i b
    cases d <;> simp only at hz <;> try (cases hz; done)
    cases hz
    exact op_notin_str pins s σ H x y v u Q I rx ry ⟨_, _, rpo_str rd, rpo_str re, q⟩
  · rename_i xs
    obtain ⟨z', hz', rfl⟩ := map_not hz
    obtain ⟨a, l, ha, hl, h1, h2, rfl⟩ := inD_some hz'
    obtain ⟨as, r1⟩ := Dp.reads I a x v (hK ▸ rpo_dp w.sub rd ha) rx
    obtain ⟨bs, r2⟩ := Dp.reads I (.tuple l) y u (hK ▸ rpo_dp w.sub re (by simp only [D.py, hl])) ry
    exact SeqAt.notIn_tuple_data r2 r1 (D.pys_plain _ _ hl) (D.py_plain _ _ ha) (by have := Nat.min_le_right (PyData.depthAll l) a.depth; omega) ⟨.bl _, H, I, rfl, q⟩
  · rename_i xs
    obtain ⟨z', hz', rfl⟩ := map_not hz
    obtain ⟨a, l, ha, hl, h1, h2, rfl⟩ := inD_some hz'
    obtain ⟨as, r1⟩ := Dp.reads I a x v (hK ▸ rpo_dp w.sub rd ha) rx
    obtain ⟨bs, r2⟩ := Dp.reads I (.list l) y u (hK ▸ rpo_dp w.sub re (by simp only [D.py, hl])) ry
    exact SeqAt.notIn_list_data r2 r1 (D.pys_plain _ _ hl) (D.py_plain _ _ ha) (by have := Nat.min_le_right (PyData.depthAll l) a.depth; omega) ⟨.bl _, H, I, rfl, q⟩
  · rename_i xs
    obtain ⟨z', hz', rfl⟩ := map_not hz
    obtain ⟨a, l, ha, hl, h1, h2, rfl⟩ := inD_some hz'
    obtain ⟨as, r1⟩ := Dp.reads I a x v (hK ▸ rpo_dp w.sub rd ha) rx
    obtain ⟨b, vs, rfl, h3, h4⟩ := rpo_ktp w.sub re
    obtain ⟨bs, r2⟩ := Dp.reads I (.tuple l) (.ref b) u (.tup (hK ▸ h3) (hK ▸ Rps.dp xs vs l (Rps.mono w.sub _ _ h4) hl)) ry
    exact SeqAt.notIn_tuple_data r2 r1 (D.pys_plain _ _ hl) (D.py_plain _ _ ha) (by have := Nat.min_le_right (PyData.depthAll l) a.depth; omega) ⟨.bl _, H, I, rfl, q⟩
  · rename_i t ks ds
    split at hz
    · rename_i hk
      obtain ⟨z', hz', rfl⟩ := map_not hz
      obtain ⟨a, l, ha, hl, h1, h2, rfl⟩ := inD_some hz'
      cases t with
      | false =>
        obtain ⟨k, rfl⟩ := keyK hk
        obtain ⟨b, kk, vs, rfl, h3, h4, rfl, h6⟩ := rpo_dicK w.sub re
        obtain rfl : u = Value.ref b := ry
        have ex : x = kV k := by cases k with
          | inl i => exact rpo_int rd
          | inr t => exact rpo_str rd
        have eb := (dget_valV kD_eq k kk ds vs h4 h6).2 _ ⟨l, a, hl, ha, rfl⟩
        refine d_notIn (by omega) I (DGet.k (k := k) h3) (ex ▸ rx) fun s' I' => ⟨.bl _, H, I', rfl, ?_⟩
        rw [← eb]; exact q
      | true =>
        obtain ⟨k, rfl⟩ := keyT hk
        obtain ⟨b, kk, vs, rfl, h3, h4, rfl, h6⟩ := rpo_dicT w.sub re
        obtain rfl : u = Value.ref b := ry
        obtain ⟨c, ws, rfl, h7, h8⟩ := rpo_tup w.sub rd
        have ew : ws = k.map kV := rps_keys h8
        have eb := (dget_valV kDs_eq k kk ds vs h4 h6).2 _ ⟨l, a, hl, ha, rfl⟩
        refine d_notIn (by omega) I (DGet.t (k := k) h3 (ew ▸ h7)) rx fun s' I' => ⟨.bl _, H, I', rfl, ?_⟩
        rw [← eb]; exact q
    · cases hz
end
end Mp

set_option Elab.async false
set_option linter.all false
set_option maxRecDepth 100000
set_option maxHeartbeats 1000000
/-! Mp, part 7: the order of data. -/
namespace Mp
open PySem L2
open PySem.SeqAt

theorem firstLt_map (e r : Nat → Bool) (fin : Bool) (f : Nat → Nat) : ∀ l : List Nat, firstLt e r fin (l.map f) = firstLt (fun j => e (f j)) (fun j => r (f j)) fin l
  | [] => rfl
  | a :: l => by
    simp only [List.map_cons, firstLt, firstLt_map e r fin f l]
def eAt (xs ys : List PyData) (j : Nat) : Bool := PyData.eqv (xs.getD j .none) (ys.getD j .none)
def rAt (xs ys : List PyData) (j : Nat) : Bool := (ltP (xs.getD j .none) (ys.getD j .none)).getD false
theorem ltPs_first : ∀ (xs ys : List PyData) (k : Bool), ltPs xs ys = some k → firstLt (eAt xs ys) (rAt xs ys) (decide (xs.length < ys.length)) (List.range (min xs.length ys.length)) = k
  | [], [], k, h => by cases h; rfl
  | [], y :: ys, k, h => by cases h; simp [firstLt]
  | x :: xs, [], k, h => by cases h; simp [firstLt]
  | x :: xs, y :: ys, k, h => by
    simp only [ltPs] at h
    split at h
    · rename_i t ht
      have ih := ltPs_first xs ys t ht
      have el : min (x :: xs).length (y :: ys).length = min xs.length ys.length + 1 := by simp only [List.length_cons]; omega
      rw [el, List.range_succ_eq_map]
      have ed : decide ((x :: xs).length < (y :: ys).length) = decide (xs.length < ys.length) := by simp
      rw [ed]
      have e0 : eAt (x :: xs) (y :: ys) 0 = PyData.eqv x y := rfl
      have r0 : rAt (x :: xs) (y :: ys) 0 = (ltP x y).getD false := rfl
      cases hx : PyData.eqv x y with
      | true =>
        rw [firstLt_yes (e0.trans hx), firstLt_map]
        rw [if_pos hx] at h
        cases h
        exact ih
      | false =>
        rw [firstLt_no (e0.trans hx), r0]
        rw [hx] at h
        simp only [Bool.false_eq_true, if_false] at h
        rw [h]
        rfl
    · cases h
theorem ltPs_at : ∀ (xs ys : List PyData) (k : Bool), ltPs xs ys = some k → ∀ (j : Nat) (h1 : j < xs.length) (h2 : j < ys.length), PyData.eqv xs[j] ys[j] = false → ∃ b, ltP xs[j] ys[j] = some b
  | [], _, _, _, j, h1, _, _ => by simp at h1
  | _ :: _, [], _, _, j, _, h2, _ => by simp at h2
  | x :: xs, y :: ys, k, h, j, h1, h2, he => by
    simp only [ltPs] at h
    split at h
    · rename_i t ht
      cases j with
      | zero =>
        simp only [List.getElem_cons_zero] at he ⊢
        rw [he] at h
        simp only [Bool.false_eq_true, if_false] at h
        exact ⟨k, h⟩
      | succ j =>
        simp only [List.getElem_cons_succ] at he ⊢
        exact ltPs_at xs ys t ht j (by simpa using h1) (by simpa using h2) he
    · cases h
theorem readsAll_get {h : Heap} : ∀ (xs : List PyData) (vs : List Value) (as : List Addr), ReadsAll h vs xs as → ∀ (j : Nat) (h1 : j < vs.length) (h2 : j < xs.length), ∃ bs, Reads h vs[j] xs[j] bs
  | [], _, _, r, j, h1, h2 => by simp at h2
  | x :: xs, _, _, r, j, h1, h2 => by
    cases r with
    | cons r1 r2 =>
      cases j with
      | zero => exact ⟨_, r1⟩
      | succ j => exact readsAll_get xs _ _ r2 j (by simpa using h1) (by simpa using h2)
theorem plainAll_get : ∀ (xs : List PyData), PyData.plainAll xs = true → ∀ (j : Nat) (h : j < xs.length), xs[j].plain = true
  | [], _, j, h => by simp at h
  | x :: xs, p, j, h => by
    simp only [PyData.plainAll, Bool.and_eq_true] at p
    cases j with
    | zero => exact p.1
    | succ j => exact plainAll_get xs p.2 j (by simpa using h)
theorem depthAll_get : ∀ (xs : List PyData) (j : Nat) (h : j < xs.length), xs[j].depth ≤ PyData.depthAll xs
  | [], j, h => by simp at h
  | x :: xs, j, h => by
    simp only [PyData.depthAll]
    cases j with
    | zero => exact Nat.le_max_left _ _
    | succ j => exact Nat.le_trans (depthAll_get xs j (by simpa using h)) (Nat.le_max_right _ _)
theorem rcLt_data : ∀ (n : Nat) (da db : PyData) (k : Bool) (A : Around) (s : Shared) (a b : Value) (as bs : List Addr), da.depth ≤ n → Reads s.heap a da as → Reads s.heap b db bs → da.plain = true → db.plain = true → A.units + n < cLine →
    ltP da db = some k → RcLt A s a b k := by
  intro n
  induction n with
  | zero =>
    intro da db k A s a b as bs hd ra rb pa pb hu h
    cases da <;> cases db <;> try (simp [ltP] at h; done)
    · simp only [ltP] at h
      cases h
      cases ra
      cases rb
      intro prog w E Q q
      exact PyProof.Rows.lt_int q
    · simp [PyData.depth] at hd
  | succ n ih =>
    intro da db k A s a b as bs hd ra rb pa pb hu h
    cases da <;> cases db <;> try (simp [ltP] at h; done)
    · simp only [ltP] at h
      cases h
      cases ra
      cases rb
      intro prog w E Q q
      exact PyProof.Rows.lt_int q
    · rename_i xs ys
      simp only [ltP] at h
      cases ra with
      | @tuple l o vs n' _ as₁ h1 h2 h3 h4 =>
        cases rb with
        | @tuple l' o' vs' n'' _ bs₁ k1 k2 k3 k4 =>
          have hl : s.heap.IsTuple l vs := ⟨_, h1, h2, _, h3⟩
          have hl' : s.heap.IsTuple l' vs' := ⟨_, k1, k2, _, k3⟩
          have n1 : vs.size = xs.length := by simpa using ReadsAll.length _ _ _ h4
          have n2 : vs'.size = ys.length := by simpa using ReadsAll.length _ _ _ k4
          have hdx : PyData.depthAll xs ≤ n := by simp only [PyData.depth] at hd; omega
          have pa' : PyData.plainAll xs = true := by simpa [PyData.plain] using pa
          have pb' : PyData.plainAll ys = true := by simpa [PyData.plain] using pb
          have e := ltPs_first xs ys k h
          have ed : decide (xs.length < ys.length) = decide (vs.size < vs'.size) := by rw [n1, n2]
          rw [ed, ← n1, ← n2] at e
          rw [← e]
          have hin : A.in1.units = A.units + 1 := rfl
          refine RcLt.tuples hl hl' (by omega) (fun j j1 j2 => ?_) fun j j1 j2 he => ?_
          · have x1 : j < xs.length := by omega
            have x2 : j < ys.length := by omega
            obtain ⟨b1, r1⟩ := readsAll_get xs vs.toList _ h4 j (by simpa using j1) x1
            obtain ⟨b2, r2⟩ := readsAll_get ys vs'.toList _ k4 j (by simpa using j2) x2
            have ee : eAt xs ys j = PyData.eqv xs[j] ys[j] := by
              unfold eAt
              rw [List.getD_eq_getElem?_getD, List.getD_eq_getElem?_getD, List.getElem?_eq_getElem x1, List.getElem?_eq_getElem x2]; rfl
            rw [ee]
            have dj := depthAll_get xs j x1
            have q := eqAt_plain xs[j] ys[j] A.in1 s vs.toList[j] vs'.toList[j] _ _ r1 r2 (plainAll_get xs pa' j x1) (plainAll_get ys pb' j x2) (by have := Nat.min_le_left xs[j].depth ys[j].depth; omega)
            simpa using q
          · have x1 : j < xs.length := by omega
            have x2 : j < ys.length := by omega
            have ee : eAt xs ys j = PyData.eqv xs[j] ys[j] := by
              unfold eAt
              rw [List.getD_eq_getElem?_getD, List.getD_eq_getElem?_getD, List.getElem?_eq_getElem x1, List.getElem?_eq_getElem x2]; rfl
            rw [ee] at he
            obtain ⟨b, hb⟩ := ltPs_at xs ys k h j x1 x2 he
            have er : rAt xs ys j = b := by
              unfold rAt
              rw [List.getD_eq_getElem?_getD, List.getD_eq_getElem?_getD, List.getElem?_eq_getElem x1, List.getElem?_eq_getElem x2]
              show (ltP xs[j] ys[j]).getD false = b
              rw [hb]; rfl
            rw [er]
            obtain ⟨b1, r1⟩ := readsAll_get xs vs.toList _ h4 j (by simpa using j1) x1
            obtain ⟨b2, r2⟩ := readsAll_get ys vs'.toList _ k4 j (by simpa using j2) x2
            have dj := depthAll_get xs j x1
            have q := ih xs[j] ys[j] b A.in1 s vs.toList[j] vs'.toList[j] _ _ (by omega) r1 r2 (plainAll_get xs pa' j x1) (plainAll_get ys pb' j x2) (by omega) hb
            simpa using q
section
variable {X : Cx} {B : Bd}
theorem D.lt_some {d e : D} {b : Bool} (h : D.lt d e = some b) : ∃ p q, d.py = some p ∧ e.py = some q ∧ p.depth ≤ 60 ∧ q.depth ≤ 60 ∧ ltP p q = some b := by
  unfold D.lt at h
  split at h
  · rename_i p q hp hq
    split at h
    · rename_i hd
      exact ⟨p, q, hp, hq, hd.1, hd.2, h⟩
    · cases h
  · cases h
theorem opLt (hu : X.A.units + 64 < cLine) (hK : X.K = B.K) : OpR X (compareOp .Lt) (rCmp B .lt) := fun pins s σ H x y v u Q I rx ry h => by
  obtain ⟨sa, Hs, rs, d, e, z, w, rd, re, hz, q⟩ := h
  obtain ⟨p, p', hp, hp', h1, h2, hl⟩ := D.lt_some hz
  obtain ⟨as, r1⟩ := Dp.reads I p x v (hK ▸ rpo_dp w.sub rd hp) rx
  obtain ⟨bs, r2⟩ := Dp.reads I p' y u (hK ▸ rpo_dp w.sub re hp') ry
  exact rcLt_data 60 p p' z X.A s v u _ _ h1 r1 r2 (D.py_plain _ _ hp) (D.py_plain _ _ hp') (by omega) hl _ _ _ _ ⟨.bl _, H, I, rfl, q⟩
theorem opCmp (hu : X.A.units + 64 < cLine) (hK : X.K = B.K) : ∀ op, OpR X (compareOp (copOp op)) (rCmp B op)
  | .lt => opLt hu hK
  | .le => opLe hK
  | .gt => opGt hK
  | .ge => opGe hK
  | .eq => opEq hu hK
  | .ne => opNe hu hK
  | .is => opIs hK
  | .isn => opIsn hK
  | .in_ => opIn hu hK
  | .nin => opNin hu hK
end
end Mp

set_option Elab.async false
set_option linter.all false
set_option maxRecDepth 100000
set_option maxHeartbeats 1000000
/-! Mp, part 8: subscripts, slices and built-ins by values. -/
namespace Mp
open PySem L2

def RpOs (B : Bd) (sa : Addr) (Hs H : Hp) (ds : List D) (vs : List V) : Prop := ds.length = vs.length ∧ ∀ (i : Nat) d v, ds[i]? = some d → vs[i]? = some v → RpO B sa Hs H d v
def rBi (B : Bd) (b : Bi) : List V → Hp → VK → Prop := fun vs H Q => ∃ sa Hs rs ds z, Wd B sa Hs H rs ∧ RpOs B sa Hs H ds vs ∧ evalBi b ds = some z ∧
  ∀ Hs' H', Ext B sa Hs H rs Hs' H' rs → ∀ v, RpF B sa H Hs' H' z v → Q v H'
theorem CallR.cases {X : Cx} {f : Value} {r' : List V → Hp → VK → Prop} (h : ∀ vs H Q, r' vs H Q → ∃ r, CallR X f r ∧ r vs H Q) : CallR X f r' := fun pins s σ H x u Q I rx q => by
  obtain ⟨r, hr, q'⟩ := h x H Q q
  exact hr pins s σ H x u Q I rx q'
section
variable {X : Cx} {B : Bd} {sa : Addr} {Hs H : Hp}
theorem rpos1 {d : D} {vs : List V} (h : RpOs B sa Hs H [d] vs) : ∃ v, vs = [v] ∧ RpO B sa Hs H d v := by
  obtain ⟨h1, h2⟩ := h
  match vs, h1 with
  | [v], _ => exact ⟨v, rfl, h2 0 d v rfl rfl⟩
theorem rpos2 {d e : D} {vs : List V} (h : RpOs B sa Hs H [d, e] vs) : ∃ v w, vs = [v, w] ∧ RpO B sa Hs H d v ∧ RpO B sa Hs H e w := by
  obtain ⟨h1, h2⟩ := h
  match vs, h1 with
  | [v, w], _ => exact ⟨v, w, rfl, h2 0 d v rfl rfl, h2 1 e w rfl rfl⟩
theorem rps_ints {ns : List Int} {ds : List D} {vs : List V} (h : Rps B.K B.cn sa Hs ds vs) (e : unI ds = some ns) : vs = ns.map V.int := by
  induction ds generalizing ns vs with
  | nil => cases e; exact h
  | cons d r ih =>
    obtain ⟨v, w, rfl, h2, h3⟩ := h
    cases d <;> try (cases e; done)
    simp only [unI] at e
    split at e
    · rename_i l hl
      cases e
      rw [ih h3 hl, show v = V.int _ from h2]; rfl
    · cases e
theorem rps_bls {ns : List Bool} {ds : List D} {vs : List V} (h : Rps B.K B.cn sa Hs ds vs) (e : unB ds = some ns) : vs = ns.map V.bl := by
  induction ds generalizing ns vs with
  | nil => cases e; exact h
  | cons d r ih =>
    obtain ⟨v, w, rfl, h2, h3⟩ := h
    cases d <;> try (cases e; done)
    simp only [unB] at e
    split at e
    · rename_i l hl
      cases e
      rw [ih h3 hl, show v = V.bl _ from h2]; rfl
    · cases e
theorem rps_strs {ns : List Str} {ds : List D} {vs : List V} (h : Rps B.K B.cn sa Hs ds vs) (e : unS ds = some ns) : vs = ns.map V.str := by
  induction ds generalizing ns vs with
  | nil => cases e; exact h
  | cons d r ih =>
    obtain ⟨v, w, rfl, h2, h3⟩ := h
    cases d <;> try (cases e; done)
    simp only [unS] at e
    split at e
    · rename_i l hl
      cases e
      rw [ih h3 hl, show v = V.str _ from h2]; rfl
    · cases e
theorem map_some {α β : Type} {o : Option α} {f : α → β} {z : β} (h : o.map f = some z) : ∃ y, o = some y ∧ z = f y := by
  cases o with
  | none => cases h
  | some y => cases h; exact ⟨y, rfl, rfl⟩
theorem biLen (hc : X.calm = true) (hK : X.K = B.K) : CallR X (.builtin "len") (rBi B .len) := CallR.cases fun vs H Q h => by
  obtain ⟨sa, Hs, rs, ds, z, w, r, hz, q⟩ := h
  simp only [evalBi] at hz
  unfold evLen at hz
  split at hz
  · cases hz
    obtain ⟨v, rfl, r1⟩ := rpos1 r
    obtain ⟨a, ws, rfl, h2, h3⟩ := rpo_tup w.sub r1
    rw [h3.length] at q
    exact ⟨_, call_len_seq, a, ws, rfl, .inr (SqT.of h2), q _ _ w.refl _ rpf_int⟩
  · cases hz
    obtain ⟨v, rfl, r1⟩ := rpos1 r
    obtain ⟨a, ws, rfl, h2, h3⟩ := rpo_lst w.sub r1
    rw [h3.length] at q
    exact ⟨_, call_len_seq, a, ws, rfl, .inl (SqL.of h2), q _ _ w.refl _ rpf_int⟩
  · cases hz
    obtain ⟨v, rfl, r1⟩ := rpos1 r
    obtain ⟨a, ws, rfl, h2, h3⟩ := rpo_scr w.sub r1
    rw [h3.length] at q
    exact ⟨_, call_len_seq, a, ws, rfl, .inl (hK ▸ h2), q _ _ w.refl _ rpf_int⟩
  · cases hz
    obtain ⟨v, rfl, r1⟩ := rpos1 r
    obtain ⟨a, ws, rfl, h2, h3⟩ := rpo_ktp w.sub r1
    rw [h3.length] at q
    exact ⟨_, call_len_seq, a, ws, rfl, .inr (hK ▸ h2), q _ _ w.refl _ rpf_int⟩
  · rename_i t ks es
    cases hz
    obtain ⟨v, rfl, r1⟩ := rpos1 r
    cases t with
    | false =>
      obtain ⟨a, kk, ws, rfl, h2, h3, rfl, h5⟩ := rpo_dicK w.sub r1
      refine ⟨_, call_lenD, a, _, rfl, h2, ?_⟩
      have e : (kk.zip ws).length = (kk.map kD).length := by rw [List.length_zip, List.length_map]; omega
      rw [e]
      exact q _ _ w.refl _ rpf_int
    | true =>
      obtain ⟨a, kk, ws, rfl, h2, h3, rfl, h5⟩ := rpo_dicT w.sub r1
      refine ⟨_, call_len_dT, a, _, rfl, h2, ?_⟩
      have e : (kk.zip ws).length = (kk.map kDs).length := by rw [List.length_zip, List.length_map]; omega
      rw [e]
      exact q _ _ w.refl _ rpf_int
  · split at hz
    · rename_i hl
      cases hz
      obtain ⟨v, rfl, r1⟩ := rpos1 r
      rw [rpo_str r1]
      exact ⟨_, call_len_str, _, rfl, by rw [← lim_eq]; exact hl, q _ _ w.refl _ rpf_int⟩
    · cases hz
  · cases hz
theorem biAbs : CallR X (.builtin "abs") (rBi B .abs) := CallR.cases fun vs H Q h => by
  obtain ⟨sa, Hs, rs, ds, z, w, r, hz, q⟩ := h
  simp only [evalBi] at hz
  unfold evAbs at hz
  split at hz
  · cases hz
    obtain ⟨v, rfl, r1⟩ := rpos1 r
    rw [rpo_int r1]
    exact ⟨_, call_abs, _, rfl, q _ _ w.refl _ rpf_int⟩
  · cases hz
theorem biInt : CallR X (.type "int") (rBi B .int) := CallR.cases fun vs H Q h => by
  obtain ⟨sa, Hs, rs, ds, z, w, r, hz, q⟩ := h
  simp only [evalBi] at hz
  unfold evInt at hz
  split at hz
  · cases hz
    obtain ⟨v, rfl, r1⟩ := rpos1 r
    rw [rpo_int r1]
    exact ⟨_, call_int1, .inl ⟨_, rfl, q _ _ w.refl _ rpf_int⟩⟩
  · cases hz
    obtain ⟨v, rfl, r1⟩ := rpos1 r
    rw [rpo_bl r1]
    exact ⟨_, call_int1, .inr ⟨_, rfl, q _ _ w.refl _ rpf_int⟩⟩
  · cases hz
theorem biStr : CallR X (.type "str") (rBi B .str) := CallR.cases fun vs H Q h => by
  obtain ⟨sa, Hs, rs, ds, z, w, r, hz, q⟩ := h
  simp only [evalBi] at hz
  unfold evStr at hz
  split at hz
  · split at hz
    · rename_i hl
      cases hz
      obtain ⟨v, rfl, r1⟩ := rpos1 r
      rw [rpo_int r1]
      exact ⟨_, call_str_int, _, rfl, hl, q _ _ w.refl _ rpf_str⟩
    · cases hz
  · cases hz
theorem biMax (hc : X.calm = true) (hK : X.K = B.K) : CallR X (.builtin "max") (rBi B .max) := CallR.cases fun vs H Q h => by
  obtain ⟨sa, Hs, rs, ds, z, w, r, hz, q⟩ := h
  simp only [evalBi] at hz
  unfold evMax at hz
  split at hz
  · cases hz
    obtain ⟨v, v', rfl, r1, r'⟩ := rpos2 r
    rw [rpo_int r1, rpo_int r']
    exact ⟨_, call_max2 hc, _, _, rfl, q _ _ w.refl _ rpf_int⟩
  · split at hz
    · rename_i xs x l hx
      cases hz
      obtain ⟨v, rfl, r1⟩ := rpos1 r
      obtain ⟨a, ws, rfl, h2, h3⟩ := rpo_lst w.sub r1
      have e := rps_ints h3 hx
      subst e
      refine ⟨_, cr_max hc, a, x :: l, rfl, SqL.of h2, by simp, fun m hm hb => ?_⟩
      have e : ∀ (l : List Int) (x m : Int), (m = x ∨ m ∈ l) → (∀ y, y = x ∨ y ∈ l → y ≤ m) → m = maxI x l := by
        intro l
        induction l with
        | nil => intro x m h1 _; exact h1.elim id fun z => absurd z (by simp)
        | cons y r ih =>
          intro x m h1 h2
          unfold maxI
          refine ih _ _ ?_ ?_
          · have hx := h2 x (.inl rfl)
            have hy := h2 y (.inr List.mem_cons_self)
            rcases h1 with z | z
            · left; split <;> omega
            · rcases List.mem_cons.mp z with z | z
              · left; split <;> omega
              · exact .inr z
          · intro k hk
            rcases hk with z | z
            · have hx := h2 x (.inl rfl)
              have hy := h2 y (.inr List.mem_cons_self)
              rw [z]; split <;> omega
            · exact h2 k (.inr (List.mem_cons_of_mem _ z))
      have em := e l x m (List.mem_cons.mp hm) (fun y hy => hb y (List.mem_cons.mpr hy))
      rw [em]
      exact q _ _ w.refl _ rpf_int
    · cases hz
  · cases hz
theorem biMin (hc : X.calm = true) (hK : X.K = B.K) : CallR X (.builtin "min") (rBi B .min) := CallR.cases fun vs H Q h => by
  obtain ⟨sa, Hs, rs, ds, z, w, r, hz, q⟩ := h
  simp only [evalBi] at hz
  unfold evMin at hz
  split at hz
  · cases hz
    obtain ⟨v, v', rfl, r1, r'⟩ := rpos2 r
    rw [rpo_int r1, rpo_int r']
    exact ⟨_, call_min2 hc, _, _, rfl, q _ _ w.refl _ rpf_int⟩
  · split at hz
    · rename_i xs x l hx
      cases hz
      obtain ⟨v, rfl, r1⟩ := rpos1 r
      obtain ⟨a, ws, rfl, h2, h3⟩ := rpo_lst w.sub r1
      have e := rps_ints h3 hx
      subst e
      refine ⟨_, cr_min hc, a, x :: l, rfl, SqL.of h2, by simp, fun m hm hb => ?_⟩
      have e : ∀ (l : List Int) (x m : Int), (m = x ∨ m ∈ l) → (∀ y, y = x ∨ y ∈ l → m ≤ y) → m = minI x l := by
        intro l
        induction l with
        | nil => intro x m h1 _; exact h1.elim id fun z => absurd z (by simp)
        | cons y r ih =>
          intro x m h1 h2
          unfold minI
          refine ih _ _ ?_ ?_
          · have hx := h2 x (.inl rfl)
            have hy := h2 y (.inr List.mem_cons_self)
            rcases h1 with z | z
            · left; split <;> omega
            · rcases List.mem_cons.mp z with z | z
              · left; split <;> omega
              · exact .inr z
          · intro k hk
            rcases hk with z | z
            · have hx := h2 x (.inl rfl)
              have hy := h2 y (.inr List.mem_cons_self)
              rw [z]; split <;> omega
            · exact h2 k (.inr (List.mem_cons_of_mem _ z))
      have em := e l x m (List.mem_cons.mp hm) (fun y hy => hb y (List.mem_cons.mpr hy))
      rw [em]
      exact q _ _ w.refl _ rpf_int
    · cases hz
  · cases hz
theorem biAll (hc : X.calm = true) (hK : X.K = B.K) : CallR X (.builtin "all") (rBi B .all) := CallR.cases fun vs H Q h => by
  obtain ⟨sa, Hs, rs, ds, z, w, r, hz, q⟩ := h
  simp only [evalBi] at hz
  unfold evAll at hz
  split at hz
  · obtain ⟨bs, hb, rfl⟩ := map_some hz
    obtain ⟨v, rfl, r1⟩ := rpos1 r
    obtain ⟨a, ws, rfl, h2, h3⟩ := rpo_lst w.sub r1
    have e := rps_bls h3 hb
    subst e
    exact ⟨_, cr_all hc, a, bs, rfl, SqL.of h2, q _ _ w.refl _ rpf_bl⟩
  · cases hz
theorem biAny (hc : X.calm = true) (hK : X.K = B.K) : CallR X (.builtin "any") (rBi B .any) := CallR.cases fun vs H Q h => by
  obtain ⟨sa, Hs, rs, ds, z, w, r, hz, q⟩ := h
  simp only [evalBi] at hz
  unfold evAny at hz
  split at hz
  · obtain ⟨bs, hb, rfl⟩ := map_some hz
    obtain ⟨v, rfl, r1⟩ := rpos1 r
    obtain ⟨a, ws, rfl, h2, h3⟩ := rpo_lst w.sub r1
    have e := rps_bls h3 hb
    subst e
    exact ⟨_, cr_any hc, a, bs, rfl, SqL.of h2, q _ _ w.refl _ rpf_bl⟩
  · cases hz
theorem biOrd : CallR X (.builtin "ord") (rBi B .ord) := CallR.cases fun vs H Q h => by
  obtain ⟨sa, Hs, rs, ds, z, w, r, hz, q⟩ := h
  simp only [evalBi] at hz
  unfold evOrd at hz
  split at hz
  · split at hz
    · rename_i hl
      cases hz
      obtain ⟨v, rfl, r1⟩ := rpos1 r
      rw [rpo_str r1]
      exact ⟨_, call_ord, _, rfl, hl, q _ _ w.refl _ rpf_int⟩
    · cases hz
  · cases hz
theorem biTuple (hK : X.K = B.K) : CallR X (.type "tuple") (rBi B .tuple) := CallR.cases fun vs H Q h => by
  obtain ⟨sa, Hs, rs, ds, z, w, r, hz, q⟩ := h
  simp only [evalBi] at hz
  unfold evTuple at hz
  split at hz
  · cases hz
    obtain ⟨v, rfl, r1⟩ := rpos1 r
    have r' := rpo_tup' r1
    obtain ⟨a, ws, rfl, h2, h3⟩ := rpo_tup w.sub r1
    exact ⟨_, call_tupleT, a, ws, rfl, SqT.of h2, q _ _ w.refl _ r'⟩
  · cases hz
    obtain ⟨v, rfl, r1⟩ := rpos1 r
    obtain ⟨a, ws, rfl, h2, h3⟩ := rpo_lst w.sub r1
    exact ⟨_, call_tuple_of, a, ws, rfl, .inl ⟨SqL.of h2, fun l hl => fin_tup w hl h3 q⟩⟩
  · cases hz
theorem rps_kD {sa : Addr} {H : Hp} : ∀ k : List Key, Rps B.K B.cn sa H (k.map kD) (k.map kV)
  | [] => rfl
  | .inl i :: r => ⟨_, _, rfl, rfl, rps_kD r⟩
  | .inr i :: r => ⟨_, _, rfl, rfl, rps_kD r⟩
theorem keys_rps {sa : Addr} {Hs H : Hp} (hs : Same Hs H) : ∀ (kk : List (List Key)) (vs : List V) (bs : List Addr), kk.length = vs.length → IsKeys H (kk.zip vs) bs → Rps B.K B.cn sa (plusT Hs H) (kk.map kDs) (bs.map V.ref)
  | [], vs, bs, hl, h => by
    simp only [List.zip_nil_left] at h
    cases h
    rfl
  | k :: kk, [], bs, hl, h => by simp at hl
  | k :: kk, v :: vs, bs, hl, h => by
    simp only [List.zip_cons_cons] at h
    cases h with
    | cons h1 h2 =>
      rename_i b bs'
      refine ⟨.ref b, bs'.map V.ref, rfl, ⟨b, k.map kV, rfl, plusT_tup hs h1, rps_kD k⟩, keys_rps hs kk vs bs' (by simpa using hl) h2⟩
theorem biList (hc : X.calm = true) (hK : X.K = B.K) : CallR X (.type "list") (rBi B .list) := CallR.cases fun vs H Q h => by
  obtain ⟨sa, Hs, rs, ds, z, w, r, hz, q⟩ := h
  simp only [evalBi] at hz
  unfold evList at hz
  split at hz
  · cases hz
    obtain ⟨v, rfl, r1⟩ := rpos1 r
    obtain ⟨a, ws, rfl, h2, h3⟩ := rpo_tup w.sub r1
    exact ⟨_, call_list_of, a, ws, rfl, .inr (SqT.of h2), fun l hl => fin_lst w hl h3 q⟩
  · cases hz
    obtain ⟨v, rfl, r1⟩ := rpos1 r
    obtain ⟨a, ws, rfl, h2, h3⟩ := rpo_lst w.sub r1
    exact ⟨_, call_list_of, a, ws, rfl, .inl (SqL.of h2), fun l hl => fin_lst w hl h3 q⟩
  · rename_i t ks es
    cases hz
    obtain ⟨v, rfl, r1⟩ := rpos1 r
    cases t with
    | false =>
      obtain ⟨a, kk, ws, rfl, h2, h3, rfl, h5⟩ := rpo_dicK w.sub r1
      refine ⟨_, call_list_dK hc, a, _, rfl, h2, fun p hp => ?_⟩
      have e : (kk.zip ws).map (fun kv => kV kv.1) = kk.map kV := by
        have : (kk.zip ws).map (fun kv => kV kv.1) = ((kk.zip ws).map Prod.fst).map kV := by rw [List.map_map]; rfl
        rw [this, List.map_fst_zip (by omega)]
      rw [e]
      exact fin_lst w hp (rps_kD kk) q
    | true =>
      obtain ⟨a, kk, ws, rfl, h2, h3, rfl, h5⟩ := rpo_dicT w.sub r1
      refine ⟨_, call_list_dT hc, a, _, rfl, .inl h2, fun p bs hp hk => ?_⟩
      have e := w.plus
      exact fin_lst e.wd hp (keys_rps w.sub kk ws bs h3 hk) fun Hs' H' e' v r => q Hs' H' (e.trans e') v r
  · cases hz
end
end Mp

set_option Elab.async false
set_option linter.all false
set_option maxRecDepth 100000
set_option maxHeartbeats 1000000
/-! Mp, part 9: sorted. -/
namespace Mp
open PySem L2
open PySem.SeqAt PySem.W

/-! ### one form -/
mutual
theorem alike_refl_ord : ∀ x : PyData, ordP x = true → alike x x = true
  | .int _, _ => by simp [alike]
  | .tuple xs, h => by simp only [alike]; exact alikeAll_refl_ord xs (by simpa [ordP] using h)
  | .none, h => by simp [ordP] at h
  | .bool _, h => by simp [ordP] at h
  | .str _, h => by simp [ordP] at h
  | .list _, h => by simp [ordP] at h
  | .dict _, h => by simp [ordP] at h
theorem alikeAll_refl_ord : ∀ xs : List PyData, ordPs xs = true → alikeAll xs xs = true
  | [], _ => by simp [alikeAll]
  | x :: xs, h => by
    simp only [ordPs, Bool.and_eq_true] at h
    simp only [alikeAll, alike_refl_ord x h.1, alikeAll_refl_ord xs h.2, Bool.and_self]
end
theorem allAlike_of : ∀ {l : List PyData}, ordPs l = true → pairAlike l = true → AllAlike l
  | [], _, _ => fun d h => absurd h (by simp)
  | x :: r, ho, hp => by
    simp only [ordPs, Bool.and_eq_true] at ho
    simp only [pairAlike, Bool.and_eq_true, List.all_eq_true] at hp
    intro d hd d' hd'
    rcases List.mem_cons.mp hd with e | e <;> rcases List.mem_cons.mp hd' with e' | e'
    · rw [e, e']; exact alike_refl_ord x ho.1
    · rw [e]; exact hp.1 d' e'
    · rw [e', alike_comm]; exact hp.1 d e
    · exact allAlike_of ho.2 hp.2 d e d' e'
/-! ### the two orders agree -/
mutual
theorem ltP_data : ∀ x y : PyData, ordP x = true → alike x y = true → ltP x y = some (dataLt x y)
  | .int i, y, _, h => by
    cases y <;> simp [alike] at h
    simp only [ltP, dataLt_int]
  | .tuple xs, y, ho, h => by
    cases y <;> simp [alike] at h
    simp only [ltP, dataLt_tuple]
    exact ltPs_data xs _ (by simpa [ordP] using ho) h
  | .none, _, h, _ => by simp [ordP] at h
  | .bool _, _, h, _ => by simp [ordP] at h
  | .str _, _, h, _ => by simp [ordP] at h
  | .list _, _, h, _ => by simp [ordP] at h
  | .dict _, _, h, _ => by simp [ordP] at h
theorem ltPs_data : ∀ xs ys : List PyData, ordPs xs = true → alikeAll xs ys = true → ltPs xs ys = some (PyProof.Rows.lexLt PyProof.Rows.itemOrd (keyToksAll xs) (keyToksAll ys))
  | [], [], _, _ => by rw [PyProof.Rows.lex_irrefl]; rfl
  | [], y :: ys, _, _ => by
    have e : PyProof.Rows.lexLt PyProof.Rows.itemOrd (keyToksAll []) (keyToksAll (y :: ys)) = true := by
      rw [toks_all_cons]
      exact PyProof.Rows.lex_true.mpr (.inl (by decide))
    rw [e]; rfl
  | x :: xs, [], _, _ => by
    have e : PyProof.Rows.lexLt PyProof.Rows.itemOrd (keyToksAll (x :: xs)) (keyToksAll []) = false := by
      rw [toks_all_cons]
      exact PyProof.Rows.lex_false.mpr ⟨by decide, .inl (by decide)⟩
    rw [e]; rfl
  | x :: xs, y :: ys, ho, h => by
    simp only [ordPs, Bool.and_eq_true] at ho
    obtain ⟨a, b⟩ := alike_all_cons h
    simp only [ltPs, ltPs_data xs ys ho.2 b]
    cases e : PyData.eqv x y with
    | true => rw [if_pos rfl, dataLt_all_yes a e]
    | false => rw [if_neg (by simp), ltP_data x y ho.1 a, dataLt_all_no a e]
end
mutual
theorem eq_of_eqv_ord : ∀ x y : PyData, ordP x = true → alike x y = true → PyData.eqv x y = true → x = y
  | .int i, y, _, h, e => by
    cases y <;> simp [alike] at h
    simp [PyData.eqv] at e
    rw [e]
  | .tuple xs, y, ho, h, e => by
    cases y <;> simp [alike] at h
    rw [eq_of_eqv_ords xs _ (by simpa [ordP] using ho) h (by simpa [PyData.eqv] using e)]
  | .none, _, h, _, _ => by simp [ordP] at h
  | .bool _, _, h, _, _ => by simp [ordP] at h
  | .str _, _, h, _, _ => by simp [ordP] at h
  | .list _, _, h, _, _ => by simp [ordP] at h
  | .dict _, _, h, _, _ => by simp [ordP] at h
theorem eq_of_eqv_ords : ∀ x y : List PyData, ordPs x = true → alikeAll x y = true → PyData.eqvAll x y = true → x = y
  | [], [], _, _, _ => rfl
  | [], _ :: _, _, _, e => by simp [PyData.eqvAll] at e
  | _ :: _, [], _, _, e => by simp [PyData.eqvAll] at e
  | x :: xs, y :: ys, ho, h, e => by
    simp only [ordPs, Bool.and_eq_true] at ho
    obtain ⟨a, b⟩ := alike_all_cons h
    rw [PyData.eqvAll, Bool.and_eq_true] at e
    rw [eq_of_eqv_ord x y ho.1 a e.1, eq_of_eqv_ords xs ys ho.2 b e.2]
end
theorem eq_of_not_lt {x y : PyData} (hx : ordP x = true) (h : alike x y = true) (h1 : dataLt x y = false) (h2 : dataLt y x = false) : x = y := by
  have e := PyProof.Rows.lex_total _ _ h1 h2
  cases q : PyData.eqv x y with
  | true => exact eq_of_eqv_ord x y hx h q
  | false =>
    exfalso
    have a := (toks_eqv x y h).2 q [.inl 0] [.inl 1]
    have b := (toks_eqv x y h).2 q [.inl 1] [.inl 0]
    rw [e] at a b
    rw [lex_pre] at a b
    have c := a.trans b.symm
    exact absurd c (by decide)
/-! ### sorted lists are one -/
theorem perm_sorted_unique {α : Type} {R : α → α → Prop} : ∀ {l m : List α}, l.Perm m → l.Pairwise R → m.Pairwise R → (∀ x ∈ l, ∀ y ∈ l, R x y → R y x → x = y) → l = m
  | [], m, p, _, _, _ => (List.Perm.nil_eq p)
  | x :: l, [], p, _, _, _ => absurd p.length_eq (by simp)
  | x :: l, y :: m, p, h1, h2, anti => by
    have hx := List.pairwise_cons.mp h1
    have hy := List.pairwise_cons.mp h2
    have e : x = y := by
      have mx : x ∈ y :: m := p.mem_iff.mp List.mem_cons_self
      have my : y ∈ x :: l := p.mem_iff.mpr List.mem_cons_self
      rcases List.mem_cons.mp mx with z | z
      · exact z
      · rcases List.mem_cons.mp my with w | w
        · exact w.symm
        · exact anti x List.mem_cons_self y my (hx.1 y w) (hy.1 x z)
    subst e
    have p' := List.Perm.cons_inv p
    rw [perm_sorted_unique p' hx.2 hy.2 fun a ha b hb => anti a (List.mem_cons_of_mem _ ha) b (List.mem_cons_of_mem _ hb)]

/-! ### data are told by the library's data -/
mutual
theorem py_inj : ∀ (x y : D) (p : PyData), x.py = some p → y.py = some p → x = y
  | .non, y, _, h1, h2 => by
    cases h1
    cases y <;> simp only [D.py] at h2 <;> first | rfl | (split at h2 <;> cases h2) | (cases h2; done)
  | .bl _, y, _, h1, h2 => by
    cases h1
    cases y <;> simp only [D.py] at h2 <;> first | (cases h2; rfl) | (split at h2 <;> cases h2) | (cases h2; done)
  | .int _, y, _, h1, h2 => by
    cases h1
    cases y <;> simp only [D.py] at h2 <;> first | (cases h2; rfl) | (split at h2 <;> cases h2) | (cases h2; done)
  | .str _, y, _, h1, h2 => by
    cases h1
    cases y <;> simp only [D.py] at h2 <;> first | (cases h2; rfl) | (split at h2 <;> cases h2) | (cases h2; done)
  | .tup xs, y, p, h1, h2 => by
    simp only [D.py] at h1
    split at h1
    · rename_i l hl
      cases h1
      cases y <;> simp only [D.py] at h2 <;> try (cases h2; done)
      · split at h2
        · rename_i l' hl'
          cases h2
          rw [pys_inj xs _ l hl hl']
        · cases h2
      · split at h2 <;> cases h2
    · cases h1
  | .lst xs, y, p, h1, h2 => by
    simp only [D.py] at h1
    split at h1
    · rename_i l hl
      cases h1
      cases y <;> simp only [D.py] at h2 <;> try (cases h2; done)
      · split at h2 <;> cases h2
      · split at h2
        · rename_i l' hl'
          cases h2
          rw [pys_inj xs _ l hl hl']
        · cases h2
    · cases h1
  | .scr _, _, _, h, _ => by cases h
  | .ktp _, _, _, h, _ => by cases h
  | .dic _ _ _, _, _, h, _ => by cases h
  | .obj _ _, _, _, h, _ => by cases h
  | .st, _, _, h, _ => by cases h
theorem pys_inj : ∀ (xs ys : List D) (l : List PyData), D.pys xs = some l → D.pys ys = some l → xs = ys
  | [], [], _, _, _ => rfl
  | [], y :: ys, l, h1, h2 => by
    cases h1
    simp only [D.pys] at h2
    split at h2
    · split at h2 <;> cases h2
    · cases h2
  | x :: xs, [], l, h1, h2 => by
    cases h2
    simp only [D.pys] at h1
    split at h1
    · split at h1 <;> cases h1
    · cases h1
  | x :: xs, y :: ys, l, h1, h2 => by
    simp only [D.pys] at h1 h2
    split at h1
    · rename_i a ha
      split at h1
      · rename_i l' hl'
        cases h1
        split at h2
        · rename_i b hb
          split at h2
          · rename_i l'' hl''
            cases h2
            rw [py_inj x y _ ha hb, pys_inj xs ys _ hl' hl'']
          · cases h2
        · cases h2
      · cases h1
    · cases h1
end
/-- an item: the datum, its value, its library's datum -/
abbrev Tri := D × V × PyData
def TriOk (b : Tri) : Prop := b.1.py = some b.2.2
def insT (x : Tri) : List Tri → List Tri
  | [] => [x]
  | y :: r => if dataLt x.2.2 y.2.2 = true then x :: y :: r else y :: insT x r
def isortT : List Tri → List Tri
  | [] => []
  | x :: r => insT x (isortT r)
theorem insT_perm (x : Tri) : ∀ l, (insT x l).Perm (x :: l)
  | [] => List.Perm.refl _
  | y :: r => by
    unfold insT
    split
    · exact List.Perm.refl _
    · exact ((insT_perm x r).cons y).trans (List.Perm.swap x y r)
theorem isortT_perm : ∀ l, (isortT l).Perm l
  | [] => List.Perm.refl _
  | x :: r => (insT_perm x (isortT r)).trans ((isortT_perm r).cons x)
abbrev leT (x y : Tri) : Prop := dataLt y.2.2 x.2.2 = false
theorem dataLt_trans {x y z : PyData} (h1 : dataLt y x = false) (h2 : dataLt z y = false) : dataLt z x = false := by
  cases h : dataLt z x with
  | false => rfl
  | true =>
    rcases PyProof.Rows.lex_negTrans _ (keyToks y) _ h with e | e
    · exact absurd (show dataLt z y = true from e) (by rw [h2]; simp)
    · exact absurd (show dataLt y x = true from e) (by rw [h1]; simp)
theorem dataLt_asymm {x y : PyData} (h : dataLt x y = true) : dataLt y x = false := by
  cases e : dataLt y x with
  | false => rfl
  | true =>
    have := PyProof.Rows.lex_trans _ _ _ h e
    rw [PyProof.Rows.lex_irrefl] at this
    cases this
theorem insT_sorted (x : Tri) : ∀ l, l.Pairwise leT → (insT x l).Pairwise leT
  | [], _ => List.pairwise_singleton _ _
  | y :: r, h => by
    have hy := List.pairwise_cons.mp h
    unfold insT
    split
    · rename_i c
      have c' := dataLt_asymm c
      refine List.pairwise_cons.mpr ⟨fun z hz => ?_, h⟩
      rcases List.mem_cons.mp hz with e | e
      · rw [e]; exact c'
      · exact dataLt_trans c' (hy.1 z e)
    · rename_i c
      refine List.pairwise_cons.mpr ⟨fun z hz => ?_, insT_sorted x r hy.2⟩
      rcases List.mem_cons.mp ((insT_perm x r).mem_iff.mp hz) with e | e
      · rw [e]
        cases q : dataLt x.2.2 y.2.2 with
        | false => exact q
        | true => exact absurd q c
      · exact hy.1 z e
theorem isortT_sorted : ∀ l, (isortT l).Pairwise leT
  | [] => List.Pairwise.nil
  | x :: r => insT_sorted x _ (isortT_sorted r)
theorem insD_insT {x : Tri} (hx : TriOk x) : ∀ {l : List Tri}, (∀ b ∈ l, TriOk b) → (∀ b ∈ x :: l, ordP b.2.2 = true ∧ b.2.2.depth ≤ 60) → (∀ b ∈ l, alike x.2.2 b.2.2 = true) → insD x.1 (l.map (·.1)) = (insT x l).map (·.1)
  | [], _, _, _ => rfl
  | y :: r, ok, hd, al => by
    have ex : D.lt x.1 y.1 = some (dataLt x.2.2 y.2.2) := by
      unfold D.lt
      rw [hx, ok y List.mem_cons_self]
      simp only
      rw [if_pos ⟨(hd x List.mem_cons_self).2, (hd y (by simp)).2⟩]
      exact ltP_data _ _ (hd x List.mem_cons_self).1 (al y List.mem_cons_self)
    have ih := insD_insT hx (l := r) (fun b hb => ok b (List.mem_cons_of_mem _ hb)) (fun b hb => hd b (by rcases List.mem_cons.mp hb with e | e; simp [e]; simp [e])) fun b hb => al b (List.mem_cons_of_mem _ hb)
    simp only [List.map_cons, insD, ex, insT]
    cases dataLt x.2.2 y.2.2 with
    | true => rfl
    | false => simp only [Bool.false_eq_true, if_false, List.map_cons, ih]
theorem sortD_isortT : ∀ {l : List Tri}, (∀ b ∈ l, TriOk b) → (∀ b ∈ l, ordP b.2.2 = true ∧ b.2.2.depth ≤ 60) → (∀ b ∈ l, ∀ c ∈ l, alike b.2.2 c.2.2 = true) → sortD (l.map (·.1)) = (isortT l).map (·.1)
  | [], _, _, _ => rfl
  | x :: r, ok, hd, al => by
    have pm := isortT_perm r
    have up : ∀ b, b ∈ isortT r → b ∈ r := fun b hb => pm.mem_iff.mp hb
    show insD x.1 (sortD (r.map (·.1))) = (insT x (isortT r)).map (·.1)
    rw [sortD_isortT (l := r) (fun b hb => ok b (List.mem_cons_of_mem _ hb)) (fun b hb => hd b (List.mem_cons_of_mem _ hb)) fun b hb c hc => al b (List.mem_cons_of_mem _ hb) c (List.mem_cons_of_mem _ hc)]
    exact insD_insT (ok x List.mem_cons_self) (fun b hb => ok b (List.mem_cons_of_mem _ (up b hb))) (fun b hb => by
      rcases List.mem_cons.mp hb with e | e
      · rw [e]; exact hd x List.mem_cons_self
      · exact hd b (List.mem_cons_of_mem _ (up b e))) fun b hb => al x List.mem_cons_self b (List.mem_cons_of_mem _ (up b hb))
/-- any sorted arrangement of the items has the data of sortD -/
theorem sorted_is {l m : List Tri} (ok : ∀ b ∈ l, TriOk b) (hd : ∀ b ∈ l, ordP b.2.2 = true ∧ b.2.2.depth ≤ 60) (al : ∀ b ∈ l, ∀ c ∈ l, alike b.2.2 c.2.2 = true) (pm : m.Perm l) (hs : m.Pairwise leT) : m.map (·.1) = sortD (l.map (·.1)) := by
  rw [sortD_isortT ok hd al]
  have p1 : (m.map (·.2.2)).Perm ((isortT l).map (·.2.2)) := (pm.trans (isortT_perm l).symm).map _
  have e : m.map (·.2.2) = (isortT l).map (·.2.2) := by
    refine perm_sorted_unique (R := fun x y => dataLt y x = false) p1 (List.pairwise_map.mpr hs) (List.pairwise_map.mpr (isortT_sorted l)) fun x hx y hy h1 h2 => ?_
    obtain ⟨b, hb, rfl⟩ := List.mem_map.mp hx
    obtain ⟨c, hc, rfl⟩ := List.mem_map.mp hy
    exact eq_of_not_lt (hd b (pm.mem_iff.mp hb)).1 (al b (pm.mem_iff.mp hb) c (pm.mem_iff.mp hc)) h2 h1
  have okm : ∀ b ∈ m, TriOk b := fun b hb => ok b (pm.mem_iff.mp hb)
  have oki : ∀ b ∈ isortT l, TriOk b := fun b hb => ok b ((isortT_perm l).mem_iff.mp hb)
  have go : ∀ (a b : List Tri), (∀ x ∈ a, TriOk x) → (∀ x ∈ b, TriOk x) → a.map (·.2.2) = b.map (·.2.2) → a.map (·.1) = b.map (·.1) := by
    intro a
    induction a with
    | nil =>
      intro b _ _ e
      cases b with
      | nil => rfl
      | cons y b => simp at e
    | cons x a ih =>
      intro b h1 h2 e
      cases b with
      | nil => simp at e
      | cons y b =>
        simp only [List.map_cons, List.cons.injEq] at e
        have t1 := h1 x List.mem_cons_self
        have t2 := h2 y List.mem_cons_self
        have : x.1 = y.1 := py_inj _ _ x.2.2 t1 (by rw [e.1]; exact t2)
        rw [List.map_cons, List.map_cons, this, ih b (fun z hz => h1 z (List.mem_cons_of_mem _ hz)) (fun z hz => h2 z (List.mem_cons_of_mem _ hz)) e.2]
  exact go _ _ okm oki e

/-! ### the call -/
section
variable {X : Cx} {B : Bd}
def RT (B : Bd) (sa : Addr) (Hs : Hp) (u : Value) (b : Tri) : Prop := RelV b.2.1 u ∧ Rp B.K B.cn sa Hs b.1 b.2.1 ∧ TriOk b
theorem tris {sa : Addr} {Hs : Hp} : ∀ {xs : List D} {vs : List V} {us : List Value} {l : List PyData}, Rps B.K B.cn sa Hs xs vs → Vals vs us → D.pys xs = some l → ∃ bs : List Tri, bs.map (·.1) = xs ∧ bs.map (·.2.1) = vs ∧ bs.map (·.2.2) = l ∧ EachIs (RT B sa Hs) us bs
  | [], vs, us, l, h, r, e => by
    cases h
    cases r
    cases e
    exact ⟨[], rfl, rfl, rfl, .nil⟩
  | x :: xs, vs, us, l, ⟨v, w, e1, h2, h3⟩, r, e => by
    subst e1
    cases r with
    | cons r1 r2 =>
      simp only [D.pys] at e
      split at e
      · rename_i a ha
        split at e
        · rename_i l' hl
          cases e
          obtain ⟨bs, b1, b2, b3, b4⟩ := tris h3 r2 hl
          exact ⟨(x, v, a) :: bs, by simp [b1], by simp [b2], by simp [b3], .cons ⟨r1, h2, ha⟩ b4⟩
        · cases e
      · cases e
theorem each_out {sa : Addr} {Hs : Hp} : ∀ {us : List Value} {bs : List Tri}, EachIs (RT B sa Hs) us bs → Vals (bs.map (·.2.1)) us ∧ Rps B.K B.cn sa Hs (bs.map (·.1)) (bs.map (·.2.1)) ∧ (∀ b ∈ bs, TriOk b)
  | _, _, .nil => ⟨.nil, rfl, fun b hb => absurd hb (by simp)⟩
  | _, _, .cons h t => by
    obtain ⟨a, b, c⟩ := each_out t
    exact ⟨.cons h.1 a, ⟨_, _, rfl, h.2.1, b⟩, fun x hx => by
      rcases List.mem_cons.mp hx with e | e
      · rw [e]; exact h.2.2
      · exact c x e⟩
theorem ordPs_mem : ∀ {l : List PyData}, ordPs l = true → ∀ p ∈ l, ordP p = true
  | [], _, p, h => absurd h (by simp)
  | x :: r, o, p, h => by
    simp only [ordPs, Bool.and_eq_true] at o
    rcases List.mem_cons.mp h with e | e
    · rw [e]; exact o.1
    · exact ordPs_mem o.2 p e
theorem depthAll_mem {l : List PyData} {p : PyData} (h : p ∈ l) : p.depth ≤ PyData.depthAll l := by
  obtain ⟨i, hi, e⟩ := List.getElem_of_mem h
  rw [← e]; exact depthAll_get l i hi
/-- lists of empty tuples -/
theorem empties_sortable {prog : Program} {w : World} {A : Around} {s : Shared} {a : Addr} {vs : List Value} (hu : A.units + 2 < cLine) (ha : ∀ o, s.heap.get? a = some o → o.cls ≠ .type "tuple") (h2 : 2 ≤ vs.length) (h : ∀ v ∈ vs, ∃ p o n, v = .ref p ∧ s.heap.get? p = some o ∧ o.cls = .type "tuple" ∧ o.data = .seq #[] n) :
    SrtO.SortableO prog w A s a vs (fun _ _ => false) := by
  intro h' keep
  have hk : ∀ v ∈ vs, ∃ p o n, v = .ref p ∧ h'.get? p = some o ∧ o.cls = .type "tuple" ∧ o.data = .seq #[] n := fun v hv => by
    obtain ⟨p, o, n, e1, e2, e3, e4⟩ := h v hv
    exact ⟨p, o, n, e1, keep p o (fun z => by subst z; exact ha o e2 e3) e2, e3, e4⟩
  refine ⟨PyProof.Rows.oneType', fun Q E hq => ?_, fun p q hp hq => ?_⟩
  · obtain ⟨v1, v2, rest, rfl⟩ : ∃ v1 v2 rest, vs = v1 :: v2 :: rest := by
      match vs, h2 with
      | v1 :: v2 :: rest, _ => exact ⟨v1, v2, rest, rfl⟩
      | [], h2 => exact absurd h2 (by decide)
      | [v], h2 => exact absurd h2 (by simp)
    have firsts : ∀ (us : List Value) {Q : List (Option Value) → Shared → Prop} {E : Value → Shared → Prop}, (∀ v ∈ us, ∃ p o n, v = .ref p ∧ h'.get? p = some o ∧ o.cls = .type "tuple" ∧ o.data = .seq #[] n) → Q (us.map fun _ => none) { s with heap := h' } →
        wpAny (model prog w) A (us.mapM PyProof.Rows.firstOfTuple') Q E { s with heap := h' } := by
      intro us
      induction us with
      | nil => intro Q E _ hq; rw [List.mapM_nil]; exact wpAny_pure hq
      | cons v us ih =>
        intro Q E hh hq
        obtain ⟨p, o, n, rfl, ho, hc, hd⟩ := hh v List.mem_cons_self
        rw [List.mapM_cons]
        refine wpAny_bind ?_
        rw [PySem.W.kas_first_eq]
        refine wpAny_bind (Looks.here (show Looks (model prog w) h' (typeOf (.ref p)) o.cls from (Looks.ld ho).andThen .now) ?_)
        rw [hc, if_neg (by first | decide | simp)]
        refine wpAny_bind (PyProof.Rows.listItems_at ho hd (wpAny_pure ?_))
        exact wpAny_bind (ih (fun u hu => hh u (List.mem_cons_of_mem _ hu)) (wpAny_pure hq))
    rw [PyProof.Rows.kat_kind_eq, List.mapM_toArray, map_eq_pure_bind]
    refine wpAny_bind (wpAny_bind (firsts _ hk (wpAny_pure ?_)))
    have hall : ¬ ((((v1 :: v2 :: rest).map fun _ => (none : Option Value)).toArray.all fun x => x.isSome) = true) := by simp
    rw [if_neg hall]
    have h0 : ¬ ((((((v1 :: v2 :: rest).map fun _ => (none : Option Value)).toArray[0]?).bind id).isSome) = true) := by simp
    rw [if_neg h0]
    rw [PyProof.Rows.oneTypeOnly'_eq, List.mapM_toArray, map_eq_pure_bind]
    refine wpAny_bind (wpAny_bind (wpAny_bind (PySem.W.kas_mapM (r := .type "tuple") _ (fun v hv Q' hq' => ?_) (wpAny_pure ?_))))
    · obtain ⟨p, o, n, rfl, ho, hc, hd⟩ := hk v hv
      exact Looks.here (show Looks (model prog w) h' (typeOf (.ref p)) (.type "tuple") from hc ▸ (Looks.ld ho).andThen .now) hq'
    · have hall2 : ((List.map (fun _ => Value.type "tuple") (v1 :: v2 :: rest)).toArray.all fun x => x == Value.type "tuple") = true := by
        simp only [List.all_toArray, List.all_map, List.all_eq_true]
        intro _ _
        show (Value.type "tuple" == Value.type "tuple") = true
        decide +kernel
      have h0 : (List.map (fun _ => Value.type "tuple") (v1 :: v2 :: rest)).toArray[0]? = some (Value.type "tuple") := by simp
      rw [h0]
      simp only [hall2, if_true]
      refine wpAny_pure ?_
      simp only [Option.isSome_some, if_true]
      exact wpAny_pure hq
  · obtain ⟨x, o, n, e1, e2, e3, e4⟩ := hk _ hp
    obtain ⟨x', o', n', e1', e2', e3', e4'⟩ := hk _ hq
    obtain ⟨cls, dd, data, sl⟩ := o
    obtain ⟨cls', dd', data', sl'⟩ := o'
    simp only at e3 e4 e3' e4'
    subst e3 e4 e3' e4'
    show wpAny (model prog w) A (PyProof.Rows.keyLt' PyProof.Rows.oneType' p.1 q.1) (fun r s' => s' = { s with heap := h' } ∧ r = false) (fun _ _ => False) { s with heap := h' }
    rw [e1, e1', PyProof.Rows.keyLt'_oneType, PyProof.Rows.oneLt'_eq]
    simp only [if_true]
    refine wpAny_bind (wpAny_cRoomFor (by omega) ?_)
    refine wpAny_bind (wpAny_callSpecialIfBound?_slot (s := { s with heap := h' }) (T := "tuple") ⟨_, e2, rfl⟩ PySem.F.slot_tuple_lt ?_)
    refine call_meets PySem.F.slot_tuple_lt ⟨_, e2, rfl⟩ PySem.F.entry_tuple_lt (PySem.F.args_tuple_lt_2 _ _) (tuple_ltAt x x' #[] #[] n n' dd dd' sl sl' (fun _ => true) (fun _ => false)) ⟨e2, e2', fun j j1 => absurd j1 (by simp), fun j j1 => absurd j1 (by simp), ?_⟩
    show wpAny (model prog w) A _ _ _ _
    exact wpAny_truthy_bool ⟨rfl, rfl⟩

theorem each_map_all {α β : Type} {R S : α → β → Prop} : ∀ {as : List α} {bs : List β}, EachIs R as bs → (∀ a b, b ∈ bs → R a b → S a b) → EachIs S as bs
  | _, _, .nil, _ => .nil
  | _, _, .cons h t, k => .cons (k _ _ List.mem_cons_self h) (each_map_all t fun a b hb => k a b (List.mem_cons_of_mem _ hb))
theorem each_map {α β γ : Type} {R : α → β → Prop} {f : β → γ} {S : α → γ → Prop} : ∀ {as : List α} {bs : List β}, EachIs R as bs → (∀ a b, R a b → S a (f b)) → EachIs S as (bs.map f)
  | _, _, .nil, _ => .nil
  | _, _, .cons h t, k => .cons (k _ _ h) (each_map t k)
theorem all_empty {sa : Addr} {Hs : Hp} : ∀ {out : List Value}, (∀ u ∈ out, ∃ v, RelV v u ∧ Rp B.K B.cn sa Hs (.tup []) v) → ∃ vs, Vals vs out ∧ Rps B.K B.cn sa Hs (List.replicate out.length (.tup [])) vs
  | [], _ => ⟨[], .nil, rfl⟩
  | u :: out, h => by
    obtain ⟨v, h1, h2⟩ := h u List.mem_cons_self
    obtain ⟨vs, h3, h4⟩ := all_empty (out := out) fun w hw => h w (List.mem_cons_of_mem _ hw)
    exact ⟨v :: vs, .cons h1 h3, v, vs, rfl, h2, h4⟩
theorem biSorted (hu : X.A.units + 64 < cLine) (hK : X.K = B.K) : CallR X (.builtin "sorted") (rBi B .sorted) := by
  intro pins s σ H vs us Q I rv h
  obtain ⟨sa, Hs, rs, ds, z, w, r, hz, q⟩ := h
  simp only [evalBi] at hz
  unfold evSorted at hz
  split at hz
  · rename_i xs
    split at hz
    · rename_i hs
      cases hz
      obtain ⟨v, rfl, r1⟩ := rpos1 r
      obtain ⟨a, ws, rfl, h2, h3⟩ := rpo_lst w.sub r1
      obtain ⟨u, rfl, ru⟩ := vals1 rv
      obtain rfl : u = .ref a := ru
      obtain ⟨its, rv2, hl, hlen⟩ := I.list (SqL.of h2)
      unfold sortable at hs
      cases hp : D.pys xs with
      | none => rw [hp] at hs; cases hs
      | some l =>
        rw [hp] at hs
        simp only [Bool.and_eq_true, Bool.or_eq_true, decide_eq_true_eq] at hs
        obtain ⟨⟨⟨hd, ho⟩, hpa⟩, hk⟩ := hs
        have al := allAlike_of ho hpa
        obtain ⟨bs, rfl, rfl, rfl, eb⟩ := tris h3 rv2 hp
        have hzl : its.length ≤ sizeLine := by rw [← rv2.length]; exact hlen
        have okb : ∀ b ∈ bs, TriOk b := (each_out eb).2.2
        have mem : ∀ b ∈ bs, b.2.2 ∈ bs.map (·.2.2) := fun b hb => List.mem_map.mpr ⟨b, hb, rfl⟩
        have hdb : ∀ b ∈ bs, ordP b.2.2 = true ∧ b.2.2.depth ≤ 60 := fun b hb => ⟨ordPs_mem ho _ (mem b hb), Nat.le_trans (depthAll_mem (mem b hb)) hd⟩
        have alb : ∀ b ∈ bs, ∀ c ∈ bs, alike b.2.2 c.2.2 = true := fun b hb c hc => al _ (mem b hb) _ (mem c hc)
        have reads : ∀ (u : Value) (b : Tri), RT B sa Hs u b → ∃ as, Reads s.heap u b.2.2 as := fun u b hb => Dp.reads I _ _ u (hK ▸ Rp.dp _ _ _ (Rp.mono w.sub _ _ hb.2.1) hb.2.2) hb.1
        rcases hk with hk | hk
        · -- each has a head
          have sk : Sortable (bs.map (·.2.2)) := by
            cases bs with
            | nil => exact .inl fun d hd => absurd hd (by simp)
            | cons b0 br =>
              have hall := List.all_eq_true.mp hk
              cases h0 : b0.2.2 with
              | int i =>
                refine .inr fun d hd' => ?_
                have q := al b0.2.2 (by simp) d hd'
                rw [h0] at q
                cases d <;> simp [alike] at q
                exact ⟨(by intro z; cases z), fun xs z => by cases z⟩
              | tuple t0 =>
                refine .inl fun d hd' => ?_
                have q := al b0.2.2 (by simp) d hd'
                rw [h0] at q
                have q2 := hall d hd'
                cases d <;> simp [alike] at q
                rename_i t
                cases t with
                | nil => simp at q2
                | cons x r => exact ⟨x, r, rfl⟩
              | none => have := (hdb b0 List.mem_cons_self).1; rw [h0] at this; simp [ordP] at this
              | bool _ => have := (hdb b0 List.mem_cons_self).1; rw [h0] at this; simp [ordP] at this
              | str _ => have := (hdb b0 List.mem_cons_self).1; rw [h0] at this; simp [ordP] at this
              | list _ => have := (hdb b0 List.mem_cons_self).1; rw [h0] at this; simp [ordP] at this
              | dict _ => have := (hdb b0 List.mem_cons_self).1; rw [h0] at this; simp [ordP] at this
          have keep : ∀ b o, s.heap.get? b = some o → (sortingHeap (copyHeap s.heap its) (s.heap.objs.size + 1) its).get? b = some o := fun b o e =>
            sortingHeap_old (Nat.ne_of_lt (Nat.lt_succ_of_lt (Heap.lt_size e))) (copyHeap_old e)
          have er : EachIs (fun v d => ∃ as, Reads (sortingHeap (copyHeap s.heap its) (s.heap.objs.size + 1) its) v d as) its (bs.map (·.2.2)) := each_map eb fun u b hb => by
            obtain ⟨as, q⟩ := reads u b hb
            exact ⟨as, PyProof.Rows.Reads.keeps keep q⟩
          have S := SortsAt.data (prog := X.prog) (w := X.w) (A := X.A.in1.in1) (s := { s with heap := sortingHeap (copyHeap s.heap its) (s.heap.objs.size + 1) its }) er al sk fun d hd' => by
            have := Nat.le_trans (depthAll_mem hd') hd
            show X.A.units + 1 + 1 + d.depth < cLine
            omega
          refine sorted_vals hl.isList S hzl ?_
          have ek : EachIs (fun v (b : Tri) => (dataKind (sortingHeap (copyHeap s.heap its) (s.heap.objs.size + 1) its) (bs.map (·.2.2))).keyOf v = some (keyToks b.2.2)) its bs := each_map_all eb fun u b hb hr => by
            obtain ⟨as, q⟩ := reads u b hr
            exact dataKind_some al (mem b hb) (PyProof.Rows.Reads.keeps keep q)
          have eo := sortVals_each (κ := dataKind (sortingHeap (copyHeap s.heap its) (s.heap.objs.size + 1) its) (bs.map (·.2.2))) (rev := false) (fun b : Tri => keyToks b.2.2) eb ek
          generalize hms : bs.mergeSort (sortLe (dataKind (sortingHeap (copyHeap s.heap its) (s.heap.objs.size + 1) its) (bs.map (·.2.2))).toKeyOrd false fun b : Tri => keyToks b.2.2) = ms at eo
          have pm : ms.Perm bs := by rw [← hms]; exact List.mergeSort_perm _ _
          have hs : ms.Pairwise leT := by
            rw [← hms]
            have tot := sortLe_total (dataKind (sortingHeap (copyHeap s.heap its) (s.heap.objs.size + 1) its) (bs.map (·.2.2))).toKeyOrd false fun b : Tri => keyToks b.2.2
            refine (sort_pairwise tot bs).imp fun {a b} hab => ?_
            have hab' : (!PyProof.Rows.lexLt PyProof.Rows.itemOrd (keyToks b.2.2) (keyToks a.2.2)) = true := hab
            show PyProof.Rows.lexLt PyProof.Rows.itemOrd (keyToks b.2.2) (keyToks a.2.2) = false
            simpa using hab'
          obtain ⟨o1, o2, o3⟩ := each_out eo
          rw [sorted_is okb hdb alb pm hs] at o2
          generalize hout : sortVals (dataKind (sortingHeap (copyHeap s.heap its) (s.heap.objs.size + 1) its) (bs.map (·.2.2))) false its its = out at o1
          obtain ⟨ep, he'⟩ := PyProof.Rows.sortedAll_at s.heap its out.toArray
          have hfr := I.hok.fresh (Nat.le_succ s.heap.objs.size)
          refine ⟨.ref _, upd H (s.heap.objs.size + 1) (.lst (ms.map (·.2.1))), I.laid (t' := s.toks) (fun _ _ => PyProof.Rows.sortedAll_old) (Nat.le_succ _) ⟨?_, out, ep, o1, he'⟩, rfl, fin_lst w hfr o2 q⟩
          rw [List.length_map, pm.length_eq]
          rw [List.length_map] at hlen
          exact hlen
        · -- empty tuples
          have hall := List.all_eq_true.mp hk
          have em : ∀ b ∈ bs, b.1 = .tup [] := fun b hb => by
            have q2 := hall b.2.2 (mem b hb)
            have ok := okb b hb
            unfold TriOk at ok
            cases h0 : b.2.2 <;> rw [h0] at q2 ok <;> try (cases q2; done)
            rename_i t
            cases t with
            | nil => exact py_inj _ _ _ ok rfl
            | cons x r => simp at q2
          have hx : bs.map (·.1) = List.replicate its.length (.tup []) := by
            rw [← eb.length.symm]
            refine List.eq_replicate_iff.mpr ⟨by simp, fun d hd' => ?_⟩
            obtain ⟨b, hb, rfl⟩ := List.mem_map.mp hd'
            exact em b hb
          have same : sortD (bs.map (·.1)) = bs.map (·.1) := by
            refine (sorted_is okb hdb alb (List.Perm.refl _) ?_).symm
            refine List.pairwise_of_forall_mem_list fun b hb c hc => ?_
            have e1 := okb b hb
            have e2 := okb c hc
            unfold TriOk at e1 e2
            rw [em b hb] at e1
            rw [em c hc] at e2
            show dataLt c.2.2 b.2.2 = false
            have f1 : b.2.2 = .tuple [] := (Option.some.inj e1).symm
            have f2 : c.2.2 = .tuple [] := (Option.some.inj e2).symm
            rw [f1, f2, dataLt_tuple, PyProof.Rows.lex_irrefl]
          have each : ∀ u ∈ its, ∃ v, RelV v u ∧ Rp B.K B.cn sa Hs (.tup []) v := fun u hu' => by
            obtain ⟨b, hb, hr⟩ := eb.left u hu'
            exact ⟨b.2.1, hr.1, em b hb ▸ hr.2.1⟩
          refine SrtO.sorted_ord (ltv := fun _ _ => false) ⟨fun _ _ h => (by cases h), fun _ _ _ _ _ => rfl⟩ hl.isList hzl (fun h2' h₁ a' ha' kk => ?_) fun out h1 h2' => ?_
          · refine empties_sortable (s := { s with heap := h₁ }) (by show X.A.units + 1 + 1 + 2 < cLine; omega) (fun o e => ?_) h2' fun v hv => ?_
            · have e' : some o = some (PyProof.Rows.seqObj "list" its.toArray 0) := e.symm.trans ha'
              cases e'
              intro c
              exact absurd (Value.type.inj c) (by decide)
            · obtain ⟨x, rx, a3, vs3, rfl, e4, e5⟩ := each v hv
              cases e5
              obtain rfl : v = .ref a3 := rx
              obtain ⟨its3, r3, ⟨o3, ho3, hc3, n3, hd3⟩, _⟩ := I.tuple (SqT.of (w.sub _ _ e4))
              cases r3
              exact ⟨a3, o3, n3, rfl, (kk a3 o3 ho3).2, hc3, hd3⟩
          · obtain ⟨vs4, o1, o2⟩ := all_empty (out := out) fun u hu' => each u (h2'.perm.mem_iff.mp hu')
            obtain ⟨ep, he'⟩ := PyProof.Rows.sortedAll_at s.heap its out.toArray
            have hfr := I.hok.fresh (Nat.le_succ s.heap.objs.size)
            rw [h2'.perm.length_eq, ← hx, ← same] at o2
            refine ⟨.ref _, upd H (s.heap.objs.size + 1) (.lst vs4), I.laid (t' := s.toks) (fun _ _ => PyProof.Rows.sortedAll_old) (Nat.le_succ _) ⟨?_, out, ep, o1, he'⟩, rfl, fin_lst w hfr o2 q⟩
            rw [o1.length, h2'.perm.length_eq]
            exact hzl
    · cases hz
  · cases hz
def rSumT (K : PySem.W.Frag) : List V → Hp → VK → Prop := fun us H Q => ∃ (a : Addr) (ns : List Int), us = [V.ref a] ∧ SqT K H a (ns.map V.int) ∧ Q (.int ns.sum) H
theorem cr_sumT (hc : X.calm = true) : CallR X (.builtin "sum") (rSumT X.K) := fun pins s σ H vs us Q I r z => by
  obtain ⟨a, ns, rfl, ht, q⟩ := z
  obtain ⟨its, rv, hl, _⟩ := I.tuple ht
  rw [Vals.ref1 r]
  have hi := rv.ints
  obtain ⟨xs, e⟩ := hi.allInts.items
  have hn : numsOf its.toArray.toList = ns := hi.numsOf
  rw [e] at hl hn
  rw [nums_intItems] at hn
  refine PySem.W.ktm_sumG (I.ok.hd hc) hl fun h' tk t' kp => ?_
  rw [preSum_eq, List.take_of_length_le (by simp), hn]
  exact ⟨.int _, H, I.kept kp, ⟨_, rfl⟩, q⟩
theorem biSum (hc : X.calm = true) (hK : X.K = B.K) : CallR X (.builtin "sum") (rBi B .sum) := CallR.cases fun vs H Q h => by
  obtain ⟨sa, Hs, rs, ds, z, w, r, hz, q⟩ := h
  simp only [evalBi] at hz
  unfold evSum at hz
  split at hz
  · obtain ⟨ns, hn, rfl⟩ := map_some hz
    obtain ⟨v, rfl, r1⟩ := rpos1 r
    obtain ⟨a, ws, rfl, h2, h3⟩ := rpo_lst w.sub r1
    have e := rps_ints h3 hn
    subst e
    exact ⟨_, cr_sum hc, a, ns, rfl, SqL.of h2, q _ _ w.refl _ rpf_int⟩
  · obtain ⟨ns, hn, rfl⟩ := map_some hz
    obtain ⟨v, rfl, r1⟩ := rpos1 r
    obtain ⟨a, ws, rfl, h2, h3⟩ := rpo_tup w.sub r1
    have e := rps_ints h3 hn
    subst e
    exact ⟨_, cr_sumT hc, a, ns, rfl, SqT.of h2, q _ _ w.refl _ rpf_int⟩
  · cases hz
/-- the callee's value -/
def biV : Bi → Value
  | .len => .builtin "len" | .abs => .builtin "abs" | .int => .type "int" | .str => .type "str" | .sum => .builtin "sum" | .tuple => .type "tuple" | .list => .type "list"
  | .sorted => .builtin "sorted" | .max => .builtin "max" | .min => .builtin "min" | .all => .builtin "all" | .any => .builtin "any" | .ord => .builtin "ord"
theorem biAll_ok (hu : X.A.units + 64 < cLine) (hc : X.calm = true) (hK : X.K = B.K) : ∀ b, CallR X (biV b) (rBi B b)
  | .len => biLen hc hK | .abs => biAbs | .int => biInt | .str => biStr | .sum => biSum hc hK | .tuple => biTuple hK | .list => biList hc hK
  | .sorted => biSorted hu hK | .max => biMax hc hK | .min => biMin hc hK | .all => biAll hc hK | .any => biAny hc hK | .ord => biOrd
end
end Mp

set_option Elab.async false
set_option linter.all false
set_option maxRecDepth 100000
set_option maxHeartbeats 2000000
/-! Mp, part 10: which text an expression stands for; the context. -/
namespace Mp
open PySem L2

def okX : Expr → Bool
  | .Starred .. => false
  | .Set .. => false
  | .Slice .. => false
  | .SetComp .. => false
  | .DictComp .. => false
  | _ => true
/-- tested by its value or by a rule of its own -/
def tOk : Expr → Bool
  | .IfExp .. => false
  | _ => true
def isBool : Expr → Bool
  | .BoolOp .. => true
  | _ => false
def visB (sc : Scope) (x : Str) : Bool := match sc.names.lookup x with
  | some .local => true
  | some .cell => true
  | some .free => true
  | _ => false
def glB (sc : Scope) (x : Str) : Bool := match sc.names.lookup x with
  | some .globalImplicit => true
  | _ => false
def nameOk (x : Str) : Bool := decide (x ≠ ("__debug__" : Str)) && decide (x ≠ ("__classdict__" : Str)) && decide (x ≠ ("__name__" : Str))
def biName : Bi → Str
  | .len => "len" | .abs => "abs" | .int => "int" | .str => "str" | .sum => "sum" | .tuple => "tuple" | .list => "list"
  | .sorted => "sorted" | .max => "max" | .min => "min" | .all => "all" | .any => "any" | .ord => "ord"
/-- what a field or method may be asked of -/
def abOk : Expr → Bool
  | .Name .. => true | .Attribute .. => true | .Subscript .. => true | .Call (.Attribute ..) .. => true | .Call _ (_ :: _) .. => true | _ => false
/-- a block's own name, stored within it -/
def ownTg (scope rel : Scope) (x : Str) : Bool := match rel.names.lookup x with
  | some .local => true
  | some .cell => decide (scope.names.lookup x = some .cell)
  | _ => false
def isTgs (N : List Str) (scope rel : Scope) : List Nat → List Expr → Bool
  | [], [] => true
  | i :: is, e :: es => (match e with | .Name x _ => decide (N[i]? = some x) && ownTg scope rel x | _ => false) && isTgs N scope rel is es
  | _, _ => false
def isTg (N : List Str) (scope rel : Scope) (xs : List Nat) (e : Expr) : Bool :=
  match xs, e with
  | [i], .Name x _ => decide (N[i]? = some x) && ownTg scope rel x
  | xs, .Tuple es _ _ => decide (xs.length ≠ 1) && isTgs N scope rel xs es
  | _, _ => false
def ownOf (N : List Str) (xs : List Nat) : List (Str × Nat) := xs.map fun i => (N.getD i "", i)

section
variable (T : Tab) (N : List Str)
mutual
def isE : Scope → E → Expr → Bool
  | sc, .slot i, e => (match e with | .Name x _ => decide (N[i]? = some x) && visB sc x && nameOk x | _ => false)
  | _, .knon, e => (match e with | .Constant .none _ _ => true | _ => false)
  | _, .kbl b, e => (match e with | .Constant (.bool c) _ _ => decide (b = c) | _ => false)
  | _, .kint i, e => (match e with | .Constant (.int j) _ _ => decide (i = j) | _ => false)
  | _, .kstr s, e => (match e with | .Constant (.str t) _ _ => decide (s = t) | _ => false)
  | sc, .con g, e => (match e with | .Name x _ => decide ((T.cons[g]?).map (·.1) = some x) && glB sc x && nameOk x | _ => false)
  | sc, .bin op a b, e => (match e with | .BinOp a' op' b' _ => decide (bopOp op = op') && isE sc a a' && isE sc b b' | _ => false)
  | sc, .neg a, e => (match e with | .UnaryOp .USub a' _ => isE sc a a' | _ => false)
  | sc, .cmp op a b, e => (match e with | .Compare a' [op'] [b'] _ => decide (copOp op = op') && okX b' && isE sc a a' && isE sc b b' | _ => false)
  | sc, .chain op op2 a b c, e => (match e with | .Compare a' [op', op2'] [b', c'] _ => decide (copOp op = op') && decide (copOp op2 = op2') && okX c' && isE sc a a' && isE sc b b' && isE sc c c' | _ => false)
  | sc, .and a b, e => (match e with
    | .BoolOp .And (a' :: b' :: r) pos => tOk a' && tOk b' && isE sc a a' && (match r with | [] => isE sc b b' | _ => isE sc b (.BoolOp .And (b' :: r) pos))
    | _ => false)
  | sc, .or a b, e => (match e with
    | .BoolOp .Or (a' :: b' :: r) pos => tOk a' && tOk b' && isE sc a a' && (match r with | [] => isE sc b b' | _ => isE sc b (.BoolOp .Or (b' :: r) pos))
    | _ => false)
  | sc, .not a, e => (match e with | .UnaryOp .Not a' _ => tOk a' && isE sc a a' | _ => false)
  | sc, .ife c a b, e => (match e with | .IfExp c' a' b' _ => tOk c' && isE sc c c' && isE sc a a' && isE sc b b' | _ => false)
  | sc, .tup es, e => (match e with | .Tuple es' _ _ => isEs sc es es' | _ => false)
  | sc, .lst es, e => (match e with | .List es' _ => isEs sc es es' | _ => false)
  | sc, .ix o i, e => (match e with | .Subscript o' i' _ => okX i' && isE sc o o' && isE sc i i' | _ => false)
  | sc, .sl o lo hi, e => (match e with | .Subscript o' (.Slice lo' hi' none _) _ => isE sc o o' && (match lo' with | none => isAbs lo | some e' => isE sc lo e') && (match hi' with | none => isAbs hi | some e' => isE sc hi e') | _ => false)
  | sc, .slr o, e => (match e with | .Subscript o' (.Slice none none (some (.UnaryOp .USub (.Constant (.int i) _ _) _)) _) _ => decide (i = 1) && isE sc o o' | _ => false)
  | sc, .call f es, e => (match e with
    | .Call (.Name x _) (a :: r) [] _ => decide ((T.fns[f]?).map (fun g => (g.name, g.ps, g.kd)) = some (x, r.length + 1, 0)) && glB sc x && nameOk x && isEs sc es (a :: r)
    | _ => false)
  | sc, .bi b es, e => (match e with
    | .Call (.Name x _) (a :: r) [] _ => decide (x = biName b) && glB sc x && nameOk x && isEs sc es (a :: r)
    | _ => false)
  | sc, .rpop o i, e => (match e with
    | .Call (.Attribute (.Name x px) name ap) [i'] [] cp => decide (name = ("pop" : Str)) && (ap.endLine == cp.line) && okX i' && isE sc o (.Name x px) && isE sc i i'
    | _ => false)
  | sc, .comp el xs it cs, e => (match e with
    | .ListComp el' [⟨tg, iter, ifs, 0⟩] scope _ => blkC N sc scope (ownOf N xs) && isTg N scope (relS scope sc) xs tg && isIt sc it iter &&
      (match cs, ifs with | .nil, [] => true | .cons c .nil, [c'] => tOk c' && isE (relS scope sc) c c' | _, _ => false) && isE (relS scope sc) el el' && okX iter
    | _ => false)
  | sc, .isi a ts, e => (match e, ts with
    | .Call (.Name x _) [a', .Name y _] [] _, [t] => decide (x = ("isinstance" : Str)) && glB sc x && decide (tySt t = some y) && glB sc y && okX a' && isE sc a a'
    | .Call (.Name x _) [a', .Tuple [.Name y _, .Name y2 _] _ _] [] _, [t, t2] => decide (x = ("isinstance" : Str)) && glB sc x && decide (tySt t = some y) && glB sc y && decide (tySt t2 = some y2) && glB sc y2 && okX a' && isE sc a a'
    | _, _ => false)
  | sc, .fld o c f, e => (match e with | .Attribute o' nm _ => decide (((T.cls[c]?).bind fun q => q.flds[f]?) = some nm) && abOk o' && isE sc o o' | _ => false)
  | sc, .meth c f o es, e => (match e with
    | .Call (.Attribute o' nm ap) es' [] cp => decide ((T.fns[f]?).map (fun g => (g.name, g.ps, g.kd, g.c)) = some (nm, es'.length + 1, 1, c)) && abOk o' && decide ((T.cls[c]?).map (fun q => decide (nm ∈ q.flds)) = some false) && (ap.endLine == cp.line) && decide (es'.length < 30) && isE sc o o' && isEs sc es es'
    | _ => false)
  | sc, .make c f es, e => (match e with
    | .Call (.Name x _) (a :: r) [] _ => decide ((T.fns[f]?).map (fun g => (g.ps, g.kd, g.c)) = some (r.length + 2, 2, c)) && decide ((T.cls[c]?).map (fun q => q.name) = some x) && glB sc x && nameOk x && isEs sc es (a :: r)
    | _ => false)
  | sc, .oeq c f a b, e => (match e with
    | .Compare a' [.Eq] [b'] _ => decide ((T.fns[f]?).map (fun g => (g.name, g.ps, g.kd, g.c)) = some (("__eq__" : Str), 2, 1, c)) && (T.cls[c]?).isSome && okX b' && isE sc a a' && isE sc b b'
    | _ => false)
  | sc, .ostr c f a, e => (match e with
    | .Call (.Name x _) [a'] [] _ => decide (x = ("str" : Str)) && glB sc x && decide ((T.fns[f]?).map (fun g => (g.name, g.ps, g.kd, g.c)) = some (("__str__" : Str), 1, 3, c)) && (T.cls[c]?).isSome && okX a' && isE sc a a'
    | _ => false)
  | sc, .isc a c, e => (match e with
    | .Call (.Name x _) [a', .Name y _] [] _ => decide (x = ("isinstance" : Str)) && glB sc x && decide ((T.cls[c]?).map (fun q => q.name) = some y) && glB sc y && nameOk y && okX a' && isE sc a a'
    | _ => false)
  | _, .dnew _, e => (match e with | .Dict [] [] _ => true | _ => false)
  | sc, .ddisp k v, e => (match e with | .Dict [some k'] [v'] _ => isE sc k k' && isE sc v v' | _ => false)
  | sc, .compK el xs i cs, e => (match e with
    | .ListComp el' [⟨tg, .Name x _, ifs, 0⟩] scope _ => decide (N[i]? = some x) && visB sc x && nameOk x && blkC N sc scope (ownOf N xs) && isTg N scope (relS scope sc) xs tg &&
      (match cs, ifs with | .nil, [] => true | .cons c .nil, [c'] => tOk c' && isE (relS scope sc) c c' | _, _ => false) && isE (relS scope sc) el el'
    | _ => false)
  | _, _, _ => false
def isEs : Scope → Es → List Expr → Bool
  | _, .nil, es => (match es with | [] => true | _ => false)
  | sc, .cons e r, es => (match es with | e' :: r' => okX e' && isE sc e e' && isEs sc r r' | _ => false)
def isIt : Scope → It → Expr → Bool
  | sc, .rng1 a, e => (match e with | .Call (.Name x _) [a'] [] _ => decide (x = ("range" : Str)) && glB sc x && okX a' && isE sc a a' | _ => false)
  | sc, .rng2 a b, e => (match e with | .Call (.Name x _) [a', b'] [] _ => decide (x = ("range" : Str)) && glB sc x && okX a' && okX b' && isE sc a a' && isE sc b b' | _ => false)
  | sc, .rng3 a b c, e => (match e with | .Call (.Name x _) [a', b', c'] [] _ => decide (x = ("range" : Str)) && glB sc x && okX a' && okX b' && okX c' && isE sc a a' && isE sc b b' && isE sc c c' | _ => false)
  | sc, .seq a, e => isE sc a e
end
end
end Mp

set_option Elab.async false
set_option linter.all false
set_option maxRecDepth 100000
set_option maxHeartbeats 2000000
/-! Mp, part 11: expressions are sound (one lemma a form). -/
namespace Mp
open PySem PySem.Spec L2

/-- a def's promise: what the evaluator says of the call -/
def spF (B : Bd) (n : Nat) (c : List D → M D) : Sp := fun vs H Q E => vs.length = n ∧ ∃ sa Hs ds rs, Wd B sa Hs H rs ∧ Rps B.K B.cn sa Hs ds vs ∧
  Post B sa E Hs H rs (c ds rs) fun d Hs' H' _ => ∀ v, Rp B.K B.cn sa Hs' d v → Q v H'
def bltNames : List Str := ["len", "abs", "int", "str", "sum", "tuple", "list", "sorted", "max", "min", "all", "any", "ord", "range", "isinstance", "dict", "bool"]
/-- the promise of a class's __init__: the new instance stands at x, its dict at dx, none of it in H1 -/
def spI (B : Bd) (c n : Nat) (call : List D → M D) : Sp := fun vs H Q E => vs.length = n ∧ ∃ sa Hs H1 xs rs x dx C ns us, vs = .ref x :: us ∧ B.cn c = some (C, ns) ∧ H1 x = none ∧ H1 dx = none ∧ dx ≠ x ∧
  H = upd (upd H1 dx (.own x)) x (.ins C dx []) ∧ Wd B sa Hs H1 rs ∧ Rps B.K B.cn sa Hs xs us ∧
  Post B sa E Hs H1 rs (call xs rs) fun d Hs' H' _ => Rp B.K B.cn sa Hs' d (.ref x) → Q .non H'
def tyAll : List String := ["NoneType", "bool", "int", "str", "tuple", "list", "dict"]
/-- a class of the text -/
structure ClsI (B : Bd) (K : PySem.W.Frag) (mg : Str → Option Value) (cl : Cl) (c : Nat) (C : Addr) : Prop where
  cn : B.cn c = some (C, cl.flds)
  cls : Cls K C
  na : ∀ f ∈ cl.flds, NoAttr K C f
  nd : cl.flds.Nodup
  sm : cl.flds.length < 1000
  mgC : mg cl.name = some (.ref C)
  kp : PySem.W.keepIn K (.ref C) = true
  cc : PySem.W.findIn K (.ref C) "__class__" = some (some (.builtin "object.__class__"))
  hn : PySem.W.specialIn K (.builtin "object.__class__") "__get__" = some (some (.builtin "getset_descriptor.__get__"))
  tk : PySem.W.takesIn K (.builtin "object.__class__") = some true
  om : PySem.W.mroIn K C (.type "object") = some true
  kb : ∀ a ∈ tyAll, PySem.W.kitOne K (.type a) (.ref C) = some false
  nf : ∀ a ∈ tyAll, PySem.W.notFirst K C (.type a) = true
structure CxOk (T : Tab) (B : Bd) (G : Cfg) (k : Nat) (N : List Str) (sc : Scope) (X : Cx) : Prop where
  hK : X.K = B.K
  hN : X.N = N
  nd : N.Nodup
  hsc : X.env.scope = sc
  calm : X.calm = true
  room : Room k X.A
  fns : ∀ (i : Nat) fn, T.fns[i]? = some fn → fn.kd = 0 → ∃ f fd ps, X.mg fn.name = some (.ref f) ∧ PySem.W.keepIn X.K (.ref f) = true ∧ Binds X.K fd ps [] ∧ ps.length = fn.ps ∧
    FnOk X.prog X.w X.K X.mg X.base (L2.CX X.prog X.w) k f fd ps (spF B fn.ps (G.call i))
  cls : ∀ (c : Nat) cl, T.cls[c]? = some cl → ∃ C, ClsI B X.K X.mg cl c C
  mts : ∀ (i : Nat) fn, T.fns[i]? = some fn → fn.kd = 1 → ∃ C ns f fd ps, B.cn fn.c = some (C, ns) ∧ Cls X.K C ∧ Meth X.K C fn.name f ∧ Binds X.K fd ps [] ∧ ps.length = fn.ps ∧
    FnOk X.prog X.w X.K X.mg X.base (L2.CX X.prog X.w) k f fd ps (spF B fn.ps (G.call i))
  ini : ∀ (i : Nat) fn, T.fns[i]? = some fn → fn.kd = 2 → ∃ C ns f fd ps, B.cn fn.c = some (C, ns) ∧ Mk X.K C f ∧ Binds X.K fd ps [] ∧ ps.length = fn.ps ∧
    ((∀ xs rs, G.call i xs rs = .stuck) ∨ ∃ j, j + 1 ≤ k ∧ FnOk X.prog X.w X.K X.mg X.base (L2.CX X.prog X.w) j f fd ps (spI B fn.c fn.ps (G.call i)))
  sts : ∀ (i : Nat) fn, T.fns[i]? = some fn → fn.kd = 3 → ∃ C ns f fd ps, B.cn fn.c = some (C, ns) ∧ Cls X.K C ∧ Meth X.K C fn.name f ∧ Binds X.K fd ps [] ∧ ps.length = fn.ps ∧
    ((∀ xs rs, G.call i xs rs = .stuck) ∨ ∃ j, j + 2 ≤ k ∧ FnOk X.prog X.w X.K X.mg X.base (L2.CX X.prog X.w) j f fd ps (spF B fn.ps (G.call i)))
  cons : ∀ (i : Nat) x d, T.cons[i]? = some (x, d) → G.con i = some d ∧ ∃ u v, X.mg x = some u ∧ RelV v u ∧ ∀ sa H, Rp B.K B.cn sa H d v
  blt : ∀ x ∈ bltNames, X.mg x = none

theorem nameOk1 {x : Str} (h : nameOk x = true) : (x == ("__debug__" : Str)) = false ∧ (x == ("__classdict__" : Str)) = false ∧ x ≠ ("__name__" : Str) := by
  unfold nameOk at h
  simp only [Bool.and_eq_true, decide_eq_true_eq] at h
  exact ⟨beq_eq_false_iff_ne.mpr h.1.1, beq_eq_false_iff_ne.mpr h.1.2, h.2⟩
theorem vis_of {sc : Scope} {x : Str} (h : visB sc x = true) : Vis sc x := by
  unfold visB at h
  split at h
  · exact .inl (by assumption)
  · exact .inr (.inl (by assumption))
  · exact .inr (.inr (by assumption))
  · cases h
theorem gl_of {sc : Scope} {x : Str} (h : glB sc x = true) : sc.names.lookup x = some .globalImplicit := by
  unfold glB at h
  split at h
  · assumption
  · cases h
theorem starEach_ok {e : Expr} {es : List Expr} {env : PySem.Env} (h : okX e = true) : starEach (e :: es) env = (false, eval e env) :: starEach es env := by
  cases e <;> first | rfl | cases h
theorem nomarkX {e : Expr} (h : okX e = true) (op : CmpOp) : behindInMarks op e = false := by
  cases e <;> first | rfl | cases h
theorem plainIxX {e : Expr} (h : okX e = true) : PlainIx e := by
  intro o i
  cases e <;> first | rfl | cases h

section
variable {T : Tab} {B : Bd} {G : Cfg} {k : Nat} {N : List Str} {sc : Scope} {X : Cx} {W : WX}

theorem CxOk.units (c : CxOk T B G k N sc X) : X.A.units + 64 < cLine := c.room.units
theorem CxOk.gl (c : CxOk T B G k N sc X) {x : Str} (h : glB sc x = true) : Gl X x := by
  show X.env.scope.names.lookup x = _
  rw [c.hsc]; exact gl_of h
/-- constants -/
theorem d_const {e : Expr} {ee : E} {d : D} {v : V} (h : PE X e (tC v)) (he : ∀ pk ρ, evalE G pk ee ρ = M.ok d) (hv : ∀ sa Hs, Rp B.K B.cn sa Hs d v) : ∀ pk, PE X e (tE B G W pk ee) := fun pk =>
  PE.imp h fun σ H Q ⟨sa, Hs0, H0, rs0, Hs, rs, ρ, sr, p⟩ => by
    rw [he] at p
    exact p _ _ sr.wd.refl _ (RpB.of (hv _ _))
theorem d_slot (c : CxOk T B G k N sc X) {i : Nat} {e : Expr} (h : isE T N sc (.slot i) e = true) : ∀ pk, PE X e (tE B G W pk (.slot i)) := fun pk => by
  unfold isE at h
  split at h
  · rename_i x pos
    simp only [Bool.and_eq_true, decide_eq_true_eq] at h
    obtain ⟨⟨h1, h2⟩, h3⟩ := h
    obtain ⟨n1, n2, n3⟩ := nameOk1 h3
    refine PE.imp (pe_var (i := i) (by rw [c.hN]; exact h1) (by rw [c.hsc]; exact vis_of h2) n1 n2) fun σ H Q ⟨sa, Hs0, H0, rs0, Hs, rs, ρ, sr, p⟩ => ?_
    unfold evalE at p
    cases hr : ρ[i]? with
    | none => rw [hr] at p; exact p.elim
    | some o =>
      cases o with
      | none => rw [hr] at p; exact p.elim
      | some s =>
        obtain ⟨v, hv, hs⟩ := sr.slot i s hr
        cases s with
        | d x =>
          rw [hr] at p
          exact ⟨v, hv, p _ _ sr.wd.refl _ (RpB.of hs)⟩
        | ol xs =>
          rw [hr] at p
          cases pk with
          | false => exact p.elim
          | true =>
            obtain ⟨a, rfl, ha, ho⟩ := hs
            exact ⟨.ref a, hv, p _ _ sr.wd.refl _ (.inr ⟨.ol xs, a, rfl, rfl, rfl, fun z => sr.sne (z ▸ ha), ho⟩)⟩
        | od t ks vs =>
          rw [hr] at p
          cases pk with
          | false => exact p.elim
          | true =>
            obtain ⟨a, rfl, ha, ho⟩ := hs
            exact ⟨.ref a, hv, p _ _ sr.wd.refl _ (.inr ⟨.od t ks vs, a, rfl, rfl, rfl, fun z => sr.sne (z ▸ ha), ho⟩)⟩
  · cases h
theorem d_con (c : CxOk T B G k N sc X) {g : Nat} {e : Expr} (h : isE T N sc (.con g) e = true) : ∀ pk, PE X e (tE B G W pk (.con g)) := fun pk => by
  unfold isE at h
  split at h
  · rename_i x pos
    simp only [Bool.and_eq_true, decide_eq_true_eq] at h
    obtain ⟨⟨h1, h2⟩, h3⟩ := h
    obtain ⟨n1, n2, n3⟩ := nameOk1 h3
    cases hg : T.cons[g]? with
    | none => rw [hg] at h1; cases h1
    | some p =>
      obtain ⟨y, d⟩ := p
      rw [hg] at h1
      cases h1
      obtain ⟨g1, u, v, g2, g3, g4⟩ := c.cons g y d hg
      exact d_const (pe_glob (c.gl h2) g2 g3 n1) (fun pk ρ => by unfold evalE; rw [g1]; rfl) g4 pk
  · cases h
/-- two operands, an operation -/
theorem d_binF (c : CxOk T B G k N sc X) {op : Bop} {a b : E} {a' b' : Expr} {pos : Pos} (ha : ∀ pk, PE X a' (tE B G W pk a)) (hb : ∀ pk, PE X b' (tE B G W pk b)) : PE X (.BinOp a' (bopOp op) b' pos) (tF B G W (.bin op a b)) :=
  PE.imp (pe_op (opBin c.hK op) (ha true) (hb true)) fun σ H Q ⟨sa, Hs0, H0, rs0, Hs, rs, ρ, sr, p⟩ => by
    unfold evalE at p
    refine toE sr p fun d Hs1 H1 rs1 v e1 sr1 r1 p => ?_
    refine toE sr1 p fun d2 Hs2 H2 rs2 v2 e2 sr2 r2 p => ?_
    obtain ⟨z, hz, q⟩ := Post.optSome p
    refine ⟨sa, Hs2, rs2, d, d2, z, sr2.wd, r1.o.mono e2, r2.o, hz, fun Hs' H' e v r => q Hs' H' e v ?_⟩
    -- fresh ahead of H2 is fresh ahead of H
    have up : ∀ b, H2 b = none → H b = none := fun b hb => by
      cases q : H b with
      | none => rfl
      | some o => exact absurd hb ((e1.trans e2).there (ne_none q))
    cases z <;> first
      | exact r
      | (obtain ⟨a, h1, h2, h3⟩ := r; exact ⟨a, h1, up a h2, h3⟩)
theorem d_ofF {e : E} {e' : Expr} (hpk : ∀ pk ρ rs, evalE G pk e ρ rs = evalE G false e ρ rs) (h : PE X e' (tF B G W e)) : ∀ pk, PE X e' (tE B G W pk e) := fun pk => PE.imp h fun σ H Q q => tE_tF hpk q
theorem d_neg (c : CxOk T B G k N sc X) {a : E} {a' : Expr} {pos : Pos} (ha : ∀ pk, PE X a' (tE B G W pk a)) : ∀ pk, PE X (.UnaryOp .USub a' pos) (tE B G W pk (.neg a)) := fun pk =>
  PE.imp (pe_un un_neg (ha true)) fun σ H Q ⟨sa, Hs0, H0, rs0, Hs, rs, ρ, sr, p⟩ => by
    unfold evalE at p
    refine toE sr p fun d Hs1 H1 rs1 v e1 sr1 r1 p => ?_
    cases d <;> first
      | exact (show False from p).elim
      | exact ⟨_, rpo_int r1.o, p _ _ sr1.wd.refl _ (RpB.of rfl)⟩
/-- a comparison, as a value and as a test -/
theorem cmp_read {op : Cop} {a b : E} {σ : St} {H : Hp} {R : V → Hp → Prop} {β : Type} {f : Bool → M β} {Q : β → Hp → Hp → Rg → Prop} {sa : Addr} {Hs0 H0 Hs : Hp} {rs0 rs : Rg} {ρ : Env} (sr : SR B sa Hs0 H0 rs0 Hs H rs ρ σ)
    (p : Post B sa (fun cls dd H' => W cls dd σ H') Hs H rs (M.bind (evalE G true a ρ) (fun x => M.bind (evalE G true b ρ) fun y => M.bind (M.opt (evalCmp op x y)) f) rs) Q)
    (k : ∀ z Hs1 H1 rs1, SR B sa Hs0 H0 rs0 Hs1 H1 rs1 ρ σ → Post B sa (fun cls dd H' => W cls dd σ H') Hs1 H1 rs1 (f z rs1) Q → R (.bl z) H1) : tOp (rCmp B op) (tE B G W true a) (tE B G W true b) σ H R := by
  refine toE sr p fun d Hs1 H1 rs1 v e1 sr1 r1 p => ?_
  refine toE sr1 p fun d2 Hs2 H2 rs2 v2 e2 sr2 r2 p => ?_
  cases hz : evalCmp op d d2 with
  | none => rw [hz] at p; exact p.elim
  | some z =>
    rw [hz] at p
    exact ⟨sa, Hs2, rs2, d, d2, z, sr2.wd, r1.o.mono e2, r2.o, hz, k z Hs2 H2 rs2 sr2 p⟩
theorem cmp_eq (op : Cop) (a b : E) (pk : Bool) (ρ : Env) : evalE G pk (.cmp op a b) ρ = M.bind (evalE G true a ρ) (fun x => M.bind (evalE G true b ρ) fun y => M.bind (M.opt (evalCmp op x y)) fun z => M.ok (.bl z)) := rfl
theorem d_cmp (c : CxOk T B G k N sc X) {op : Cop} {a b : E} {a' b' : Expr} {pos : Pos} (hb' : okX b' = true) (ha : ∀ pk, PE X a' (tE B G W pk a)) (hb : ∀ pk, PE X b' (tE B G W pk b)) :
    (∀ pk, PE X (.Compare a' [copOp op] [b'] pos) (tE B G W pk (.cmp op a b))) ∧ PT X (.Compare a' [copOp op] [b'] pos) (tT B G W (.cmp op a b)) := by
  refine ⟨fun pk => PE.imp (pe_cmpR (opCmp c.units c.hK op) (ha true) (hb true) (nomarkX hb' _)) fun σ H Q ⟨sa, Hs0, H0, rs0, Hs, rs, ρ, sr, p⟩ => ?_,
    PT.imp (pt_cmpR (opCmp c.units c.hK op) (ha true) (hb true) (nomarkX hb' _)) fun σ H Q ⟨sa, Hs0, H0, rs0, Hs, rs, ρ, sr, p⟩ => ?_⟩
  · rw [cmp_eq] at p
    exact cmp_read sr p fun z Hs1 H1 rs1 sr1 p => p _ _ sr1.wd.refl _ (RpB.of rfl)
  · rw [cmp_eq] at p
    refine cmp_read (R := fun x H' => ∃ k, x = .bl k ∧ Q k H') sr p fun z Hs1 H1 rs1 sr1 p => ?_
    obtain ⟨b, hb, q⟩ := p _ _ sr1.wd.refl
    cases hb
    exact ⟨z, rfl, q⟩
theorem chain_eq (op op2 : Cop) (a b c : E) (pk : Bool) (ρ : Env) : evalE G pk (.chain op op2 a b c) ρ = M.bind (evalE G true a ρ) (fun x => M.bind (evalE G true b ρ) fun y => M.bind (M.opt (evalCmp op x y)) fun k =>
      if k then M.bind (evalE G true c ρ) (fun z => M.bind (M.opt (evalCmp op2 y z)) fun z => M.ok (.bl z)) else M.ok (.bl false)) := rfl
theorem chain_read (c : CxOk T B G k N sc X) {op op2 : Cop} {a b cc : E} {σ : St} {H : Hp} {R : Bool → Hp → Prop} {Q : D → Hp → Hp → Rg → Prop} {sa : Addr} {Hs0 H0 Hs : Hp} {rs0 rs : Rg} {ρ : Env} {pk : Bool} (sr : SR B sa Hs0 H0 rs0 Hs H rs ρ σ)
    (p : Post B sa (fun cls dd H' => W cls dd σ H') Hs H rs (evalE G pk (.chain op op2 a b cc) ρ rs) Q)
    (kk : ∀ z Hs1 H1 rs1, SR B sa Hs0 H0 rs0 Hs1 H1 rs1 ρ σ → Q (.bl z) Hs1 H1 rs1 → R z H1) :
    tE B G W true a σ H fun x H1 => tE B G W true b σ H1 fun y H2 => rCmp B op x y H2 fun z H3 => ∃ k, z = .bl k ∧ (if k = true then tE B G W true cc σ H3 fun w' H4 => rCmp B op2 y w' H4 fun z' H5 => ∃ k', z' = .bl k' ∧ R k' H5 else R false H3) := by
  rw [chain_eq] at p
  refine toE sr p fun d Hs1 H1 rs1 v e1 sr1 r1 p => ?_
  refine toE sr1 p fun d2 Hs2 H2 rs2 v2 e2 sr2 r2 p => ?_
  cases hz : evalCmp op d d2 with
  | none => rw [hz] at p; exact p.elim
  | some z =>
    rw [hz] at p
    refine ⟨sa, Hs2, rs2, d, d2, z, sr2.wd, r1.o.mono e2, r2.o, hz, z, rfl, ?_⟩
    cases z with
    | true =>
      rw [if_pos rfl]
      have p : Post B sa (fun cls dd H' => W cls dd σ H') Hs2 H2 rs2 (M.bind (evalE G true cc ρ) (fun z => M.bind (M.opt (evalCmp op2 d2 z)) fun z => M.ok (.bl z)) rs2) Q := p
      refine toE sr2 p fun d3 Hs3 H3 rs3 v3 e3 sr3 r3 p => ?_
      cases hz2 : evalCmp op2 d2 d3 with
      | none => rw [hz2] at p; exact p.elim
      | some z2 =>
        rw [hz2] at p
        exact ⟨sa, Hs3, rs3, d2, d3, z2, sr3.wd, r2.o.mono e3, r3.o, hz2, z2, rfl, kk z2 _ _ _ sr3 (p _ _ sr3.wd.refl)⟩
    | false =>
      rw [if_neg (by simp)]
      exact kk false _ _ _ sr2 (p _ _ sr2.wd.refl)
end
end Mp

set_option Elab.async false
set_option linter.all false
set_option maxRecDepth 100000
set_option maxHeartbeats 2000000
/-! Mp, part 12: expressions are sound (one lemma a form), further. -/
namespace Mp
open PySem PySem.Spec L2
section
variable {T : Tab} {B : Bd} {G : Cfg} {k : Nat} {N : List Str} {sc : Scope} {X : Cx} {W : WX}
theorem lastMarksX {op op2 : CmpOp} {b c : Expr} (h : okX c = true) : lastMarks [op, op2] [b, c] = false := nomarkX h op2
theorem d_chain (c : CxOk T B G k N sc X) {op op2 : Cop} {a b cc : E} {a' b' c' : Expr} {pos : Pos} (hc' : okX c' = true) (ha : ∀ pk, PE X a' (tE B G W pk a)) (hb : ∀ pk, PE X b' (tE B G W pk b)) (hcc : ∀ pk, PE X c' (tE B G W pk cc)) :
    (∀ pk, PE X (.Compare a' [copOp op, copOp op2] [b', c'] pos) (tE B G W pk (.chain op op2 a b cc))) ∧ PT X (.Compare a' [copOp op, copOp op2] [b', c'] pos) (tT B G W (.chain op op2 a b cc)) := by
  refine ⟨fun pk => PE.imp (pe_chain (opCmp c.units c.hK op) (opCmp c.units c.hK op2) (ha true) (hb true) (hcc true) (lastMarksX hc')) fun σ H Q ⟨sa, Hs0, H0, rs0, Hs, rs, ρ, sr, p⟩ => ?_,
    PT.imp (pt_chain (opCmp c.units c.hK op) (opCmp c.units c.hK op2) (ha true) (hb true) (hcc true) (lastMarksX hc')) fun σ H Q ⟨sa, Hs0, H0, rs0, Hs, rs, ρ, sr, p⟩ => ?_⟩
  · have q := chain_read (R := fun z H' => Q (.bl z) H') c sr p fun z Hs1 H1 rs1 sr1 q => q _ (RpB.of rfl)
    refine toMono q fun x H1 h1 => toMono h1 fun y H2 h2 => rCmpMono h2 fun z H3 ⟨k, e, h3⟩ => ⟨k, e, ?_⟩
    cases k with
    | true => exact toMono h3 fun w' H4 h4 => rCmpMono h4 fun z' H5 ⟨k', e', q'⟩ => by rw [e']; exact q'
    | false => exact h3
  · have q := chain_read (R := fun z H' => Q z H') c sr p fun z Hs1 H1 rs1 sr1 ⟨b, hb, q⟩ => by cases hb; exact q
    refine toMono q fun x H1 h1 => toMono h1 fun y H2 h2 => rCmpMono h2 fun z H3 ⟨k, e, h3⟩ => ⟨k, e, ?_⟩
    cases k with
    | true => exact h3
    | false => exact ⟨false, rfl, h3⟩
where
  toMono {pk : Bool} {e : E} {σ : L2.St} {H : Hp} {Q Q' : VK} (h : tE B G W pk e σ H Q) (k : ∀ v H', Q v H' → Q' v H') : tE B G W pk e σ H Q' := by
    obtain ⟨sa, Hs0, H0, rs0, Hs, rs, ρ, sr, p⟩ := h
    exact ⟨sa, Hs0, H0, rs0, Hs, rs, ρ, sr, Post.mono p fun a Hs' H' rs' e' q v r => k v H' (q v r)⟩
  rCmpMono {op : Cop} {x y : V} {H : Hp} {Q Q' : VK} (h : rCmp B op x y H Q) (k : ∀ v H', Q v H' → Q' v H') : rCmp B op x y H Q' := by
    obtain ⟨sa, Hs, rs, d, e, z, w, rd, re, hz, q⟩ := h
    exact ⟨sa, Hs, rs, d, e, z, w, rd, re, hz, k _ _ q⟩
theorem and_read {a b : E} {σ : L2.St} {H : Hp} {R : Bool → Hp → Prop} {Q : D → Hp → Hp → Rg → Prop} {sa : Addr} {Hs0 H0 Hs : Hp} {rs0 rs : Rg} {ρ : Env} {pk : Bool} (sr : SR B sa Hs0 H0 rs0 Hs H rs ρ σ)
    (p : Post B sa (fun cls dd H' => W cls dd σ H') Hs H rs (evalE G pk (.and a b) ρ rs) Q) (kk : ∀ z Hs1 H1 rs1, SR B sa Hs0 H0 rs0 Hs1 H1 rs1 ρ σ → Q (.bl z) Hs1 H1 rs1 → R z H1) :
    tT B G W a σ H fun z H1 => if z = true then tT B G W b σ H1 R else R false H1 := by
  unfold evalE at p
  refine toT sr p fun d Hs1 H1 rs1 e1 sr1 p => ?_
  cases d <;> first | exact (show False from p).elim | skip
  rename_i z
  refine ⟨z, rfl, ?_⟩
  cases z with
  | true =>
    rw [if_pos rfl]
    refine toT sr1 p fun d Hs2 H2 rs2 e2 sr2 p => ?_
    cases d <;> first | exact (show False from p).elim | exact ⟨_, rfl, kk _ _ _ _ sr2 (p _ _ sr2.wd.refl)⟩
  | false => rw [if_neg (by simp)]; exact kk _ _ _ _ sr1 (p _ _ sr1.wd.refl)
theorem or_read {a b : E} {σ : L2.St} {H : Hp} {R : Bool → Hp → Prop} {Q : D → Hp → Hp → Rg → Prop} {sa : Addr} {Hs0 H0 Hs : Hp} {rs0 rs : Rg} {ρ : Env} {pk : Bool} (sr : SR B sa Hs0 H0 rs0 Hs H rs ρ σ)
    (p : Post B sa (fun cls dd H' => W cls dd σ H') Hs H rs (evalE G pk (.or a b) ρ rs) Q) (kk : ∀ z Hs1 H1 rs1, SR B sa Hs0 H0 rs0 Hs1 H1 rs1 ρ σ → Q (.bl z) Hs1 H1 rs1 → R z H1) :
    tT B G W a σ H fun z H1 => if z = true then R true H1 else tT B G W b σ H1 R := by
  unfold evalE at p
  refine toT sr p fun d Hs1 H1 rs1 e1 sr1 p => ?_
  cases d <;> first | exact (show False from p).elim | skip
  rename_i z
  refine ⟨z, rfl, ?_⟩
  cases z with
  | false =>
    rw [if_neg (by simp)]
    refine toT sr1 p fun d Hs2 H2 rs2 e2 sr2 p => ?_
    cases d <;> first | exact (show False from p).elim | exact ⟨_, rfl, kk _ _ _ _ sr2 (p _ _ sr2.wd.refl)⟩
  | true => rw [if_pos rfl]; exact kk _ _ _ _ sr1 (p _ _ sr1.wd.refl)
/-- a test's reading as a value's -/
theorem tT_tE {e : E} {σ : L2.St} {H : Hp} {Q : VK} (h : tT B G W e σ H fun z H' => Q (.bl z) H') : tE B G W true e σ H fun x H' => ∃ c, x = .bl c ∧ Q (.bl c) H' := by
  obtain ⟨sa, Hs0, H0, rs0, Hs, rs, ρ, sr, p⟩ := h
  refine ⟨sa, Hs0, H0, rs0, Hs, rs, ρ, sr, Post.mono p fun d Hs' H' rs' e' ⟨b, hb, q⟩ v r => ?_⟩
  subst hb
  exact ⟨b, rpo_bl r, q⟩
theorem tT_mono {e : E} {σ : L2.St} {H : Hp} {Q Q' : Bool → Hp → Prop} (h : tT B G W e σ H Q) (k : ∀ z H', Q z H' → Q' z H') : tT B G W e σ H Q' := by
  obtain ⟨sa, Hs0, H0, rs0, Hs, rs, ρ, sr, p⟩ := h
  exact ⟨sa, Hs0, H0, rs0, Hs, rs, ρ, sr, Post.mono p fun d Hs' H' rs' e' ⟨b, hb, q⟩ => ⟨b, hb, k b H' q⟩⟩
theorem tT_tE' {e : E} {σ : L2.St} {H : Hp} {R : Bool → Hp → Prop} (h : tT B G W e σ H R) : tE B G W true e σ H fun x H' => ∃ c, x = .bl c ∧ R c H' := by
  obtain ⟨sa, Hs0, H0, rs0, Hs, rs, ρ, sr, p⟩ := h
  refine ⟨sa, Hs0, H0, rs0, Hs, rs, ρ, sr, Post.mono p fun d Hs' H' rs' e' ⟨b, hb, q⟩ v r => ?_⟩
  subst hb
  exact ⟨b, rpo_bl r, q⟩
theorem d_and {a b : E} {a' b' : Expr} {r : List Expr} {pos : Pos} (ha : ∀ pk, PE X a' (tE B G W pk a)) (hb : ∀ pk, PE X (.BoolOp .And (b' :: r) pos) (tE B G W pk b)) : ∀ pk, PE X (.BoolOp .And (a' :: b' :: r) pos) (tE B G W pk (.and a b)) := fun pk =>
  PE.imp (pe_and (ha true) (hb true)) fun σ H Q ⟨sa, Hs0, H0, rs0, Hs, rs, ρ, sr, p⟩ => by
    have q := and_read (R := fun z H' => Q (.bl z) H') sr p fun z Hs1 H1 rs1 sr1 q => q _ (RpB.of rfl)
    refine d_chain.toMono (tT_tE' q) fun x H1 ⟨c, e, h⟩ => ⟨c, e, ?_⟩
    cases c with
    | true =>
      rw [if_pos rfl] at h ⊢
      exact d_chain.toMono (tT_tE' h) fun y H2 ⟨c', e', h'⟩ => by rw [e']; exact h'
    | false => rw [if_neg (by simp)] at h ⊢; exact h
theorem d_or {a b : E} {a' b' : Expr} {r : List Expr} {pos : Pos} (ha : ∀ pk, PE X a' (tE B G W pk a)) (hb : ∀ pk, PE X (.BoolOp .Or (b' :: r) pos) (tE B G W pk b)) : ∀ pk, PE X (.BoolOp .Or (a' :: b' :: r) pos) (tE B G W pk (.or a b)) := fun pk =>
  PE.imp (pe_or (ha true) (hb true)) fun σ H Q ⟨sa, Hs0, H0, rs0, Hs, rs, ρ, sr, p⟩ => by
    have q := or_read (R := fun z H' => Q (.bl z) H') sr p fun z Hs1 H1 rs1 sr1 q => q _ (RpB.of rfl)
    refine d_chain.toMono (tT_tE' q) fun x H1 ⟨c, e, h⟩ => ⟨c, e, ?_⟩
    cases c with
    | false =>
      rw [if_neg (by simp)] at h ⊢
      exact d_chain.toMono (tT_tE' h) fun y H2 ⟨c', e', h'⟩ => by rw [e']; exact h'
    | true => rw [if_pos rfl] at h ⊢; exact h
theorem w_and {a b : E} {a' b' : Expr} {r : List Expr} {pos : Pos} (ha : PT X a' (tT B G W a)) (hb : PW X (.BoolOp .And (b' :: r) pos) (tT B G W b)) : PW X (.BoolOp .And (a' :: b' :: r) pos) (tT B G W (.and a b)) := by
  refine ⟨fun wh pins s σ H Q I h => (pw_and ha hb).run wh pins s σ H Q I ?_⟩
  obtain ⟨sa, Hs0, H0, rs0, Hs, rs, ρ, sr, p⟩ := h
  exact and_read sr p fun z Hs1 H1 rs1 sr1 ⟨b, hb, q⟩ => by cases hb; exact q
theorem w_or {a b : E} {a' b' : Expr} {r : List Expr} {pos : Pos} (ha : PT X a' (tT B G W a)) (hb : PW X (.BoolOp .Or (b' :: r) pos) (tT B G W b)) : PW X (.BoolOp .Or (a' :: b' :: r) pos) (tT B G W (.or a b)) := by
  refine ⟨fun wh pins s σ H Q I h => (pw_or ha hb).run wh pins s σ H Q I ?_⟩
  obtain ⟨sa, Hs0, H0, rs0, Hs, rs, ρ, sr, p⟩ := h
  exact or_read sr p fun z Hs1 H1 rs1 sr1 ⟨b, hb, q⟩ => by cases hb; exact q
theorem d_not {a : E} {a' : Expr} {pos : Pos} (ha : ∀ pk, PE X a' (tE B G W pk a)) : ∀ pk, PE X (.UnaryOp .Not a' pos) (tE B G W pk (.not a)) := fun pk =>
  PE.imp (pe_not (ha true)) fun σ H Q ⟨sa, Hs0, H0, rs0, Hs, rs, ρ, sr, p⟩ => by
    unfold evalE at p
    refine toE sr p fun d Hs1 H1 rs1 v e1 sr1 r1 p => ?_
    cases d <;> first | exact (show False from p).elim | exact ⟨_, rpo_bl r1.o, p _ _ sr1.wd.refl _ (RpB.of rfl)⟩
theorem t_not {a : E} {a' : Expr} {pos : Pos} (ha : PT X a' (tT B G W a)) : PT X (.UnaryOp .Not a' pos) (tT B G W (.not a)) :=
  PT.imp (pt_not ha) fun σ H Q ⟨sa, Hs0, H0, rs0, Hs, rs, ρ, sr, p⟩ => by
    unfold evalE at p
    refine toT sr p fun d Hs1 H1 rs1 e1 sr1 p => ?_
    cases d <;> first
      | exact (show False from p).elim
      | (obtain ⟨b, hb, q⟩ := p _ _ sr1.wd.refl; cases hb; exact ⟨_, rfl, q⟩)
/-- a test of a form that is tested by its value -/
theorem t_val {e : E} {e' : Expr} (h : ∀ pk, PE X e' (tE B G W pk e)) (he : ∀ whole, isTrue e' X.env whole = (do let v ← whole; standAt e'.pos; holding [v] (truthy v))) : PT X e' (tT B G W e) :=
  PT.imp (pt_val (h true) he) fun σ H Q q => tT_tE' q
theorem d_ife {c a b : E} {c' a' b' : Expr} {pos : Pos} (hc : PT X c' (tT B G W c)) (ha : ∀ pk, PE X a' (tE B G W pk a)) (hb : ∀ pk, PE X b' (tE B G W pk b)) : ∀ pk, PE X (.IfExp c' a' b' pos) (tE B G W pk (.ife c a b)) := fun pk =>
  PE.imp (pe_ifExp hc (ha false) (hb false)) fun σ H Q ⟨sa, Hs0, H0, rs0, Hs, rs, ρ, sr, p⟩ => by
    unfold evalE at p
    refine toT sr p fun d Hs1 H1 rs1 e1 sr1 p => ?_
    cases d <;> first | exact (show False from p).elim | skip
    rename_i z
    refine ⟨z, rfl, ?_⟩
    cases z with
    | true => rw [if_pos rfl]; exact ⟨_, _, _, _, _, _, _, sr1, Post.mono p fun x Hs' H' rs' e' q v r => q v (RpB.of r)⟩
    | false => rw [if_neg (by simp)]; exact ⟨_, _, _, _, _, _, _, sr1, Post.mono p fun x Hs' H' rs' e' q v r => q v (RpB.of r)⟩
theorem rps_of {sa : Addr} {Hs H : Hp} : ∀ {ds : List D} {vs : List V}, (ds.length = vs.length ∧ ∀ (i : Nat) d v, ds[i]? = some d → vs[i]? = some v → RpB B sa false Hs H d v) → Rps B.K B.cn sa Hs ds vs
  | [], vs, ⟨h, _⟩ => List.eq_nil_of_length_eq_zero h.symm
  | d :: ds, [], ⟨h, _⟩ => by simp at h
  | d :: ds, v :: vs, ⟨h, k⟩ => ⟨v, vs, rfl, by
      have q := k 0 d v rfl rfl
      unfold RpB at q
      rw [if_neg (by simp)] at q
      exact q, rps_of ⟨by simpa using h, fun i e w h1 h2 => k (i + 1) e w (by simpa using h1) (by simpa using h2)⟩⟩
theorem d_tup {es : Es} {es' : List Expr} {x1 : Nat} {pos : Pos} (ha : ∀ pk, PA X es' (tAr B G W pk es)) : ∀ pk, PE X (.Tuple es' x1 pos) (tE B G W pk (.tup es)) := fun pk =>
  PE.imp (pe_tup (ha false)) fun σ H Q ⟨sa, Hs0, H0, rs0, Hs, rs, ρ, sr, p⟩ => by
    unfold evalE at p
    refine toA sr p fun ds Hs1 H1 rs1 vs e1 sr1 r1 p => ?_
    have rr := rps_of r1
    split at p
    · rename_i hl
      refine ⟨by rw [← r1.1, ← lim_eq]; exact hl, fun q hq => ?_⟩
      have e := sr1.wd.alloc (o := .tup vs) hq
      exact p _ _ e _ (RpB.of ⟨q, vs, rfl, upd_same, Rps.mono e.ss _ _ rr⟩)
    · exact (show False from p).elim
theorem up_none {sa : Addr} {Hs H Hs1 H1 : Hp} {rs rs1 : Rg} (e : Ext B sa Hs H rs Hs1 H1 rs1) {b : Addr} (h : H1 b = none) : H b = none := by
  cases q : H b with
  | none => rfl
  | some o => exact absurd h (e.there (ne_none q))
theorem d_lstF {es : Es} {es' : List Expr} {pos : Pos} (ha : ∀ pk, PA X es' (tAr B G W pk es)) : PE X (.List es' pos) (tF B G W (.lst es)) :=
  PE.imp (pe_lst (ha false)) fun σ H Q ⟨sa, Hs0, H0, rs0, Hs, rs, ρ, sr, p⟩ => by
    unfold evalE at p
    refine toA sr p fun ds Hs1 H1 rs1 vs e1 sr1 r1 p => ?_
    have rr := rps_of r1
    split at p
    · rename_i hl
      refine ⟨by rw [← r1.1, ← lim_eq]; exact hl, fun q hq => ?_⟩
      refine fin_lst sr1.wd hq rr fun Hs' H' e v r => p Hs' H' e v ?_
      obtain ⟨a, h1, h2, h3⟩ := r
      exact ⟨a, h1, up_none e1 h2, h3⟩
    · exact (show False from p).elim
theorem pa_nilM : ∀ pk, PA X [] (tAr B G W pk .nil) := fun pk =>
  PA.imp pa_nil fun σ H Q ⟨sa, Hs0, H0, rs0, Hs, rs, ρ, sr, p⟩ => p _ _ sr.wd.refl _ ⟨rfl, fun i d v h => by simp at h⟩
theorem RpB.mono {sa : Addr} {Hs H Hs1 H1 : Hp} {rs rs1 : Rg} {pk : Bool} {d : D} {v : V} (e : Ext B sa Hs H rs Hs1 H1 rs1) (h : RpB B sa pk Hs H d v) : RpB B sa pk Hs1 H1 d v := by
  unfold RpB at h ⊢
  split
  · rename_i c; rw [if_pos c] at h; exact h.mono e
  · rename_i c; rw [if_neg c] at h; exact Rp.mono e.ss _ _ h
theorem pa_consM {e : E} {es : Es} {e' : Expr} {es' : List Expr} (he' : okX e' = true) (he : ∀ pk, PE X e' (tE B G W pk e)) (hr : ∀ pk, PA X es' (tAr B G W pk es)) : ∀ pk, PA X (e' :: es') (tAr B G W pk (.cons e es)) := fun pk =>
  PA.imp (pa_cons (he pk) (hr pk) (starEach_ok he')) fun σ H Q ⟨sa, Hs0, H0, rs0, Hs, rs, ρ, sr, p⟩ => by
    unfold evalEs at p
    refine toE sr p fun d Hs1 H1 rs1 v e1 sr1 r1 p => ?_
    refine toA sr1 p fun ds Hs2 H2 rs2 vs e2 sr2 r2 p => ?_
    refine p _ _ sr2.wd.refl _ ⟨by simp [r2.1], fun i x w h1 h2 => ?_⟩
    cases i with
    | zero => simp at h1 h2; subst h1 h2; exact r1.mono e2
    | succ i => exact r2.2 i x w (by simpa using h1) (by simpa using h2)
end
end Mp

set_option Elab.async false
set_option linter.all false
set_option maxRecDepth 100000
set_option maxHeartbeats 2000000
/-! Mp, part 13: subscripts, slices, calls, built-ins. -/
namespace Mp
open PySem PySem.Spec L2
theorem IxR.cases {X : Cx} {r' : R2} (h : ∀ x y H Q, r' x y H Q → ∃ r, IxR X r ∧ r x y H Q) : IxR X r' := fun value slice pins s σ H x y v u Q I rx ry q => by
  obtain ⟨r, hr, q'⟩ := h x y H Q q
  exact hr value slice pins s σ H x y v u Q I rx ry q'
theorem SlR.cases {X : Cx} {r' : V → Option Int → Option Int → Hp → VK → Prop} (h : ∀ x lo hi H Q, r' x lo hi H Q → ∃ r, SlR X r ∧ r x lo hi H Q) : SlR X r' := fun pins s σ H x v vl vu lo hi sl Q I rx hs pl pu q => by
  obtain ⟨r, hr, q'⟩ := h x lo hi H Q q
  exact hr pins s σ H x v vl vu lo hi sl Q I rx hs pl pu q'
theorem atI_rps {K : PySem.W.Frag} {cn : Nat → Option (Addr × List Str)} {sa : Addr} {H : Hp} {ds : List D} {vs : List V} {k : Int} {z : D} (r : Rps K cn sa H ds vs) (h : atI ds k = some z) : ∃ v, atI vs k = some v ∧ Rp K cn sa H z v := by
  unfold atI at h ⊢
  rw [← r.length]
  cases e : ixN ds.length k with
  | none => rw [e] at h; cases h
  | some j => rw [e] at h; exact r.get h
def rIxM (B : Bd) : R2 := fun x y H Q => ∃ sa Hs rs d e z, Wd B sa Hs H rs ∧ RpO B sa Hs H d x ∧ RpO B sa Hs H e y ∧ ixM rs d e = some z ∧ ∀ v, Rp B.K B.cn sa Hs z v → Q v H
section
variable {T : Tab} {B : Bd} {G : Cfg} {k : Nat} {N : List Str} {sc : Scope} {X : Cx} {W : WX}
theorem ix_dict (hu : X.A.units + 64 < cLine) : IxR X (fun x y H Q => ∃ a v, x = .ref a ∧ DGet H a y (some v) ∧ Q v H) := by
  intro value slice pins s σ H x y v u Q I rx ry h hs
  obtain ⟨a, w, rfl, g, q⟩ := h
  obtain rfl : v = Value.ref a := rx
  exact PyProof.Rows.tail_any (dict_typeIs I g) PySem.F.slot_dict_getitem.lookup (d_getItem (by show X.A.units + 1 < cLine; omega) I g ry fun w' s3 I3 rw' => ⟨w, H, I3, rw', q⟩) hs
theorem rIxM_ok (hu : X.A.units + 64 < cLine) (hK : X.K = B.K) : IxR X (rIxM B) := IxR.cases fun x y H Q h => by
  obtain ⟨sa, Hs, rs, d, e, z, w, rd, re, hz, q⟩ := h
  cases d with
  | st =>
    obtain rfl := rpo_st rd
    cases rs with
    | none => cases hz
    | some l =>
      cases e <;> first | (cases hz; done) | skip
      rename_i i
      obtain rfl := rpo_int re
      obtain ⟨h1, vs, h2, h3⟩ := w.reg l rfl
      obtain ⟨v, e1, e2⟩ := atI_rps h3 hz
      exact ⟨_, ix_list, sa, vs, i, v, rfl, rfl, SqL.of h2, e1, q v e2⟩
  | tup xs =>
    cases e <;> first | (cases hz; done) | skip
    rename_i i
    obtain rfl := rpo_int re
    obtain ⟨a, vs, rfl, h2, h3⟩ := rpo_tup w.sub rd
    obtain ⟨v, e1, e2⟩ := atI_rps h3 hz
    exact ⟨_, ix_tup, a, vs, i, v, rfl, rfl, SqT.of h2, e1, q v e2⟩
  | ktp xs =>
    cases e <;> first | (cases hz; done) | skip
    rename_i i
    obtain rfl := rpo_int re
    obtain ⟨a, vs, rfl, h2, h3⟩ := rpo_ktp w.sub rd
    obtain ⟨v, e1, e2⟩ := atI_rps h3 hz
    exact ⟨_, ix_tup, a, vs, i, v, rfl, rfl, hK ▸ h2, e1, q v e2⟩
  | lst xs =>
    cases e <;> first | (cases hz; done) | skip
    rename_i i
    obtain rfl := rpo_int re
    obtain ⟨a, vs, rfl, h2, h3⟩ := rpo_lst w.sub rd
    obtain ⟨v, e1, e2⟩ := atI_rps h3 hz
    exact ⟨_, ix_list, a, vs, i, v, rfl, rfl, SqL.of h2, e1, q v e2⟩
  | scr xs =>
    cases e <;> first | (cases hz; done) | skip
    rename_i i
    obtain rfl := rpo_int re
    obtain ⟨a, vs, rfl, h2, h3⟩ := rpo_scr w.sub rd
    obtain ⟨v, e1, e2⟩ := atI_rps h3 hz
    exact ⟨_, ix_list, a, vs, i, v, rfl, rfl, hK ▸ h2, e1, q v e2⟩
  | str t =>
    cases e <;> first | (cases hz; done) | skip
    rename_i i
    obtain rfl := rpo_int re
    obtain rfl := rpo_str rd
    simp only [ixM, evalIx] at hz
    split at hz
    · rename_i hl
      obtain ⟨c, hc, rfl⟩ := Option.map_eq_some_iff.mp hz
      exact ⟨_, ix_str, t, i, c, rfl, rfl, by rw [← lim_eq]; exact hl, hc, q _ rfl⟩
    · cases hz
  | dic t ks ds =>
    replace hz : (if keyOk t e then dget e ks ds else none) = some z := hz
    split at hz
    · rename_i hk
      cases t with
      | false =>
        obtain ⟨k, rfl⟩ := keyK hk
        obtain ⟨a, kk, vs, rfl, h3, h4, rfl, h6⟩ := rpo_dicK w.sub rd
        obtain ⟨v, e1, e2⟩ := (dget_valV kD_eq k kk ds vs h4 h6).1 z hz
        have ey : y = kV k := by
          cases k with
          | inl i => exact rpo_int re
          | inr i => exact rpo_str re
        subst ey
        exact ⟨_, ix_dict hu, a, v, rfl, by rw [← e1]; exact DGet.k h3, q v e2⟩
      | true =>
        obtain ⟨k, rfl⟩ := keyT hk
        obtain ⟨a, kk, vs, rfl, h3, h4, rfl, h6⟩ := rpo_dicT w.sub rd
        obtain ⟨v, e1, e2⟩ := (dget_valV kDs_eq k kk ds vs h4 h6).1 z hz
        obtain ⟨c, ws, rfl, h7, h8⟩ := rpo_tup w.sub re
        have ew : ws = k.map kV := rps_keys h8
        exact ⟨_, ix_dict hu, a, v, rfl, by rw [← e1]; exact DGet.t h3 (ew ▸ h7), q v e2⟩
    · cases hz
  | non => cases hz
  | bl b => cases hz
  | int i => cases hz
  | obj c fs => cases hz
theorem d_ix (c : CxOk T B G k N sc X) {a b : E} {a' b' : Expr} {pos : Pos} (hb' : okX b' = true) (ha : ∀ pk, PE X a' (tE B G W pk a)) (hb : ∀ pk, PE X b' (tE B G W pk b)) : ∀ pk, PE X (.Subscript a' b' pos) (tE B G W pk (.ix a b)) := fun pk =>
  PE.imp (pe_ix (rIxM_ok c.units c.hK) (ha true) (hb true) (plainIxX hb')) fun σ H Q ⟨sa, Hs0, H0, rs0, Hs, rs, ρ, sr, p⟩ => by
    unfold evalE at p
    refine toE sr p fun d Hs1 H1 rs1 v e1 sr1 r1 p => ?_
    refine toE sr1 p fun d2 Hs2 H2 rs2 v2 e2 sr2 r2 p => ?_
    obtain ⟨z, hz, q⟩ := Post.optSome p
    exact ⟨sa, Hs2, rs2, d, d2, z, sr2.wd, r1.o.mono e2, r2.o, hz, fun v r => q _ _ sr2.wd.refl v (RpB.of r)⟩

/-! slices -/
theorem Rps.cut {K : PySem.W.Frag} {cn : Nat → Option (Addr × List Str)} {sa : Addr} {H : Hp} {ds : List D} {vs : List V} (r : Rps K cn sa H ds vs) (lo hi : Option Int) : Rps K cn sa H (cutD ds lo hi) (cutV vs lo hi) := by
  unfold cutD cutV
  rw [r.length]
  exact Rps.take _ (Rps.drop _ r)
def rSlM (B : Bd) : V → Option Int → Option Int → Hp → VK → Prop := fun x lo hi H Q => ∃ sa Hs rs d z, Wd B sa Hs H rs ∧ RpO B sa Hs H d x ∧ evalSl d lo hi = some z ∧
  ∀ Hs' H', Ext B sa Hs H rs Hs' H' rs → ∀ v, RpF B sa H Hs' H' z v → Q v H'
theorem sIx_whole {α : Type} (xs : List α) {lo hi : Option Int} (h : HT.sIx xs.length 0 lo = 0 ∧ HT.sIx xs.length xs.length hi = xs.length) : (xs.drop (HT.sIx xs.length 0 lo)).take (HT.sIx xs.length xs.length hi - HT.sIx xs.length 0 lo) = xs := by
  rw [h.1, h.2]; simp
theorem rSlM_ok (hK : X.K = B.K) : SlR X (rSlM B) := SlR.cases fun x lo hi H Q h => by
  obtain ⟨sa, Hs, rs, d, z, w, rd, hz, q⟩ := h
  cases d with
  | tup xs =>
    cases hz
    obtain ⟨a, vs, rfl, h2, h3⟩ := rpo_tup' rd
    refine ⟨_, sl_tupA, a, vs, rfl, SqT.of (w.sub _ _ h2), fun hw => ?_, fun hw p hp => fin_tup w hp (h3.cut lo hi) q⟩
    refine q _ _ w.refl _ ⟨a, vs, rfl, h2, ?_⟩
    have := h3.cut lo hi
    unfold cutV at this
    rw [sIx_whole vs hw] at this
    exact this
  | lst xs =>
    cases hz
    obtain ⟨a, vs, rfl, h2, h3⟩ := rpo_lst w.sub rd
    exact ⟨_, sl_list, a, vs, rfl, SqL.of h2, fun p hp => fin_lst w hp (h3.cut lo hi) q⟩
  | scr xs =>
    cases hz
    obtain ⟨a, vs, rfl, h2, h3⟩ := rpo_scr w.sub rd
    exact ⟨_, sl_list, a, vs, rfl, hK ▸ h2, fun p hp => fin_lst w hp (h3.cut lo hi) q⟩
  | _ => cases hz
def tO (B : Bd) (G : Cfg) (W : WX) (e : E) : TO := fun σ H Q => ∃ sa Hs0 H0 rs0 Hs rs ρ, SR B sa Hs0 H0 rs0 Hs H rs ρ σ ∧
  Post B sa (fun cls dd H' => W cls dd σ H') Hs H rs (evalE G true e ρ rs) fun d Hs' H' _ => ∃ o, boundD (isAbs e) d = some o ∧ Q o H'
theorem toO {β : Type} {e : E} {f : D → M β} {σ : L2.St} {H : Hp} {sa : Addr} {Hs0 H0 Hs : Hp} {rs0 rs : Rg} {ρ : Env} {Q : β → Hp → Hp → Rg → Prop} {R : Option Int → Hp → Prop} (sr : SR B sa Hs0 H0 rs0 Hs H rs ρ σ)
    (h : Post B sa (fun cls dd H' => W cls dd σ H') Hs H rs (M.bind (evalE G true e ρ) f rs) Q)
    (k : ∀ d Hs1 H1 rs1, Ext B sa Hs H rs Hs1 H1 rs1 → SR B sa Hs0 H0 rs0 Hs1 H1 rs1 ρ σ → Post B sa (fun cls dd H' => W cls dd σ H') Hs1 H1 rs1 (f d rs1) Q → ∃ o, boundD (isAbs e) d = some o ∧ R o H1) : tO B G W e σ H R :=
  ⟨sa, Hs0, H0, rs0, Hs, rs, ρ, sr, Post.bind h fun d Hs1 H1 rs1 e' p => k d Hs1 H1 rs1 e' (sr.mono e') p⟩
theorem PO.imp {X : Cx} {e : Option Expr} {t t' : TO} (h : PO X e t) (k : ∀ σ H Q, t' σ H Q → t σ H Q) : PO X e t' := ⟨fun pins s σ H Q I q => h.run pins s σ H Q I (k σ H Q q)⟩
theorem o_abs : PO X none (tO B G W .absent) := PO.imp po_none fun σ H Q ⟨sa, Hs0, H0, rs0, Hs, rs, ρ, sr, p⟩ => by
  obtain ⟨o, h1, h2⟩ := p _ _ sr.wd.refl
  cases h1
  exact h2
theorem o_some {e : E} {e' : Expr} (hn : isAbs e = false) (h : ∀ pk, PE X e' (tE B G W pk e)) : PO X (some e') (tO B G W e) := PO.imp (po_some (h true)) fun σ H Q ⟨sa, Hs0, H0, rs0, Hs, rs, ρ, sr, p⟩ => by
  refine ⟨sa, Hs0, H0, rs0, Hs, rs, ρ, sr, Post.mono p fun d Hs' H' rs' e' ⟨o, ho, q⟩ v r => ?_⟩
  rw [hn] at ho
  cases d <;> first | (cases ho; done) | skip
  cases ho
  exact ⟨_, rpo_int r.o, q⟩
theorem d_slF (c : CxOk T B G k N sc X) {a lo hi : E} {a' : Expr} {lo' hi' : Option Expr} {p2 pos : Pos} (ha : ∀ pk, PE X a' (tE B G W pk a)) (hl : PO X lo' (tO B G W lo)) (hh : PO X hi' (tO B G W hi)) : PE X (.Subscript a' (.Slice lo' hi' none p2) pos) (tF B G W (.sl a lo hi)) :=
  PE.imp (pe_slice (rSlM_ok c.hK) (ha true) hl hh) fun σ H Q ⟨sa, Hs0, H0, rs0, Hs, rs, ρ, sr, p⟩ => by
    unfold evalE at p
    refine toE sr p fun d Hs1 H1 rs1 v e1 sr1 r1 p => ?_
    refine toO sr1 p fun l Hs2 H2 rs2 e2 sr2 p => ?_
    cases ol : boundD (isAbs lo) l with
    | none => rw [ol] at p; exact p.elim
    | some o =>
      rw [ol] at p
      refine ⟨o, rfl, ?_⟩
      refine toO sr2 p fun h Hs3 H3 rs3 e3 sr3 p => ?_
      cases oh : boundD (isAbs hi) h with
      | none => rw [oh] at p; exact p.elim
      | some o2 =>
        rw [oh] at p
        refine ⟨o2, rfl, ?_⟩
        obtain ⟨z, hz, q⟩ := Post.optSome p
        refine ⟨sa, Hs3, rs3, d, z, sr3.wd, r1.o.mono (e2.trans e3), hz, fun Hs' H' e v r => q Hs' H' e v ?_⟩
        have up : ∀ b, H3 b = none → H b = none := fun b hb => up_none ((e1.trans e2).trans e3) hb
        cases z <;> first
          | exact r
          | (obtain ⟨a, h1, h2, h3⟩ := r; exact ⟨a, h1, up a h2, h3⟩)
/-! calls -/
def Es.len : Es → Nat
  | .nil => 0
  | .cons _ r => r.len + 1
theorem evalEs_len : ∀ (es : Es) (pk : Bool) (ρ : Env) (rs : Rg) (ds : List D) (rs' : Rg), evalEs G pk es ρ rs = .ok ds rs' → ds.length = es.len
  | .nil, pk, ρ, rs, ds, rs', h => by unfold evalEs at h; cases h; rfl
  | .cons e r, pk, ρ, rs, ds, rs', h => by
    unfold evalEs at h
    unfold M.bind at h
    cases e1 : evalE G pk e ρ rs with
    | stuck => rw [e1] at h; cases h
    | exc c d rs1 => rw [e1] at h; cases h
    | ok d rs1 =>
      rw [e1] at h
      dsimp only at h
      cases e2 : evalEs G pk r ρ rs1 with
      | stuck => rw [e2] at h; cases h
      | exc c d rs1 => rw [e2] at h; cases h
      | ok xs rs2 =>
        rw [e2] at h
        cases h
        have := evalEs_len r pk ρ rs1 xs _ e2
        simp [this, Es.len]
theorem isEs_len : ∀ (es : Es) (l : List Expr), isEs T N sc es l = true → es.len = l.length ∧ l.all okX = true
  | .nil, l, h => by
    unfold isEs at h
    split at h
    · exact ⟨rfl, rfl⟩
    · cases h
  | .cons e r, l, h => by
    unfold isEs at h
    split at h
    · simp only [Bool.and_eq_true] at h
      obtain ⟨h1, h2⟩ := isEs_len r _ h.2
      exact ⟨by simp [Es.len, h1], by simp [h.1.1, h2]⟩
    · cases h
theorem noStars {env : PySem.Env} : ∀ {l : List Expr}, l.all okX = true → ∀ (q : Pos), (backTo q (starEach l env)).any (·.1) = false
  | [], _, q => rfl
  | e :: r, h, q => by
    rw [List.all_cons, Bool.and_eq_true] at h
    rw [starEach_ok h.1]
    have := noStars (env := env) h.2 q
    simp only [backTo, List.map_cons, List.any_cons] at this ⊢
    rw [this]; rfl
/-- the reading of arguments, with their number -/
theorem toAL {β : Type} {pk : Bool} {es : Es} {f : List D → M β} {σ : L2.St} {H : Hp} {sa : Addr} {Hs0 H0 Hs : Hp} {rs0 rs : Rg} {ρ : Env} {Q : β → Hp → Hp → Rg → Prop} {R : List V → Hp → Prop} (sr : SR B sa Hs0 H0 rs0 Hs H rs ρ σ)
    (h : Post B sa (fun cls dd H' => W cls dd σ H') Hs H rs (M.bind (evalEs G pk es ρ) f rs) Q)
    (k : ∀ ds Hs1 H1 rs1 vs, Ext B sa Hs H rs Hs1 H1 rs1 → SR B sa Hs0 H0 rs0 Hs1 H1 rs1 ρ σ → (ds.length = vs.length ∧ ∀ (i : Nat) d v, ds[i]? = some d → vs[i]? = some v → RpB B sa pk Hs1 H1 d v) → ds.length = es.len →
      Post B sa (fun cls dd H' => W cls dd σ H') Hs1 H1 rs1 (f ds rs1) Q → R vs H1) : tAr B G W pk es σ H R := by
  refine ⟨sa, Hs0, H0, rs0, Hs, rs, ρ, sr, ?_⟩
  unfold M.bind at h
  cases er : evalEs G pk es ρ rs with
  | stuck => rw [er] at h; exact h
  | exc c d rs' => rw [er] at h; exact h
  | ok ds rs' =>
    rw [er] at h
    exact fun Hs' H' e' vs r => k ds Hs' H' rs' vs e' (sr.mono e') r (evalEs_len es pk ρ rs ds rs' er) (Post.shift e' h)
theorem d_call (c : CxOk T B G k N sc X) (tk : Takes X W) {f : Nat} {es : Es} {x : Str} {a : Expr} {r : List Expr} {p pos : Pos} (hf : (T.fns[f]?).map (fun g => (g.name, g.ps, g.kd)) = some (x, r.length + 1, 0)) (hg : glB sc x = true) (hn : nameOk x = true)
    (hes : isEs T N sc es (a :: r) = true) (ha : ∀ pk, PA X (a :: r) (tAr B G W pk es)) : ∀ pk, PE X (.Call (.Name x p) (a :: r) [] pos) (tE B G W pk (.call f es)) := fun pk => by
  obtain ⟨fn, h1, h2⟩ := Option.map_eq_some_iff.mp hf
  obtain ⟨rfl, h3⟩ := Prod.mk.inj h2
  obtain ⟨h3, h0⟩ := Prod.mk.inj h3
  obtain ⟨ad, fd, ps, m1, m2, m3, m4, F⟩ := c.fns f fn h1 h0
  obtain ⟨hl, hok⟩ := isEs_len es _ hes
  rw [List.all_cons, Bool.and_eq_true] at hok
  refine PE.imp (pe_callS F c.room (c.gl hg) m1 m2 m3 (passAt tk) (ha false) (nameOk1 hn).1 (starEach_ok hok.1) (noStars hok.2 _)) fun σ H Q ⟨sa, Hs0, H0, rs0, Hs, rs, ρ, sr, p⟩ => ?_
  unfold evalE at p
  refine toAL sr p fun ds Hs1 H1 rs1 vs e1 sr1 r1 hlen p => ?_
  exact ⟨by rw [← r1.1, hlen, hl, h3]; rfl, sa, Hs1, ds, rs1, sr1.wd, rps_of r1, Post.mono p fun d Hs' H' rs' e' q v r => q v (RpB.of r)⟩
/-! built-ins -/
theorem bi_boot (b : Bi) : bootBuiltins (biName b) = some (biV b) := by cases b <;> decide +kernel
theorem bi_names (b : Bi) : biName b ∈ bltNames := by cases b <;> decide
theorem RpB.true {sa : Addr} {Hs H : Hp} {d : D} {v : V} (h : RpB B sa true Hs H d v) : RpO B sa Hs H d v := h.o
theorem bi_st {rs : Rg} {b : Bi} {ds : List D} {z : D} (h : biM rs b ds = some z) : (∃ l, b = .len ∧ ds = [.st] ∧ rs = some l ∧ z = .int l.length) ∨ evalBi b ds = some z := by
  unfold biM at h
  split at h
  · rename_i b' h2 
    obtain ⟨l, h3, h4⟩ := Option.map_eq_some_iff.mp h
    exact .inl ⟨l, rfl, rfl, h3, h4.symm⟩
  · exact .inr h
theorem d_biF (c : CxOk T B G k N sc X) {b : Bi} {es : Es} {x : Str} {a : Expr} {r : List Expr} {p pos : Pos} (hx : x = biName b) (hg : glB sc x = true) (hn : nameOk x = true)
    (hes : isEs T N sc es (a :: r) = true) (ha : ∀ pk, PA X (a :: r) (tAr B G W pk es)) : PE X (.Call (.Name x p) (a :: r) [] pos) (tF B G W (.bi b es)) := by
  subst hx
  obtain ⟨hl, hok⟩ := isEs_len es _ hes
  rw [List.all_cons, Bool.and_eq_true] at hok
  obtain ⟨n1, n2, n3⟩ := nameOk1 hn
  have st : ∀ {rr : List V → Hp → VK → Prop} {σ : L2.St} {H : Hp} {Q : VK}, (∀ vs H Q, (rBi B b vs H Q ∨ (b = .len ∧ ∃ p l, vs = [.ref p] ∧ H p = some (.lst l) ∧ Q (.int l.length) H)) → rr vs H Q) → tF B G W (.bi b es) σ H Q → tCB rr (tAr B G W true es) σ H Q := by
    intro rr σ H Q hr ⟨sa, Hs0, H0, rs0, Hs, rs, ρ, sr, p⟩
    unfold evalE at p
    refine toA sr p fun ds Hs1 H1 rs1 vs e1 sr1 r1 p => ?_
    obtain ⟨z, hz, q⟩ := Post.optSome p
    refine hr _ _ _ ?_
    rcases bi_st hz with ⟨l, h1, h2, h3, h4⟩ | hz
    · subst h2 h4
      obtain ⟨w1, vs', w2, w3⟩ := sr1.wd.reg l h3
      obtain ⟨r1l, r1r⟩ := r1
      match vs, r1l with
      | [v], _ =>
        obtain rfl := rpo_st (r1r 0 _ _ rfl rfl).o
        refine .inr ⟨h1, sa, vs', rfl, w2, ?_⟩
        rw [← w3.length]
        exact q _ _ sr1.wd.refl _ rfl
    · refine .inl ⟨sa, Hs1, rs1, ds, z, sr1.wd, ⟨r1.1, fun i d v h1 h2 => (r1.2 i d v h1 h2).o⟩, hz, fun Hs' H' e v r => q Hs' H' e v ?_⟩
      have up : ∀ b, H1 b = none → H b = none := fun b hb => up_none e1 hb
      cases z <;> first
        | exact r
        | (obtain ⟨a, h1, h2, h3⟩ := r; exact ⟨a, h1, up a h2, h3⟩)
  have cr : CallR X (biV b) (fun vs H Q => rBi B b vs H Q ∨ (b = .len ∧ ∃ p l, vs = [.ref p] ∧ H p = some (.lst l) ∧ Q (.int l.length) H)) := CallR.cases fun vs H Q h => by
    rcases h with h | ⟨h1, p, l, rfl, h3, h4⟩
    · exact ⟨_, biAll_ok c.units c.calm c.hK b, h⟩
    · subst h1
      exact ⟨_, call_len_seq, p, l, rfl, .inl (SqL.of h3), h4⟩
  have hm := c.blt _ (bi_names b)
  have hb := bi_boot b
  cases hv : biV b with
  | builtin id =>
    rw [hv] at cr hb
    exact PE.imp (pe_callB cr (c.gl hg) hm hb (ha true) n3 n1 (starEach_ok hok.1) (noStars hok.2 _)) fun σ H Q q => st (fun _ _ _ h => h) q
  | type id =>
    rw [hv] at cr hb
    exact PE.imp (pe_callTy cr (c.gl hg) hm hb (ha true) n3 n1 (starEach_ok hok.1) (noStars hok.2 _)) fun σ H Q q => st (fun _ _ _ h => h) q
  | _ => cases b <;> cases hv
end
end Mp

set_option Elab.async false
set_option linter.all false
set_option maxRecDepth 100000
set_option maxHeartbeats 2000000
/-! Mp, part 14: iterators, targets. -/
namespace Mp
open PySem PySem.Spec L2
/-- what is walked, while C holds -/
structure WalkOk (B : Bd) (sa : Addr) (C : Hp → Hp → Rg → Prop) (J : L2.It) (ds : List D) : Prop where
  go : ∀ Hs H rs i, C Hs H rs → Wd B sa Hs H rs → i < ds.length → J.go i H
  yld : ∀ Hs H rs i x H', C Hs H rs → Wd B sa Hs H rs → i < ds.length → J.yld i H x H' → H' = H ∧ ∃ d Hs', ds[i]? = some d ∧ Ext B sa Hs H rs Hs' H rs ∧ Rp B.K B.cn sa Hs' d x
  stop : ∀ Hs H rs, C Hs H rs → Wd B sa Hs H rs → J.stop ds.length H
/-- what stays while one walks -/
def Keeps (B : Bd) (sa : Addr) (pk : Bool) (Hs H : Hp) (rs : Rg) : Hp → Hp → Rg → Prop := fun Hs' H' rs' => if pk = true then Ext B sa Hs H rs Hs' H' rs' else Same Hs Hs'
theorem Keeps.same {B : Bd} {sa : Addr} {pk : Bool} {Hs H Hs' H' : Hp} {rs rs' : Rg} (k : Keeps B sa pk Hs H rs Hs' H' rs') : Same Hs Hs' := by
  unfold Keeps at k
  split at k
  · exact k.ss
  · exact k
def tIt (B : Bd) (G : Cfg) (W : WX) (pk : Bool) (it : It) : TI := fun σ H R => ∃ sa Hs0 H0 rs0 Hs rs ρ, SR B sa Hs0 H0 rs0 Hs H rs ρ σ ∧
  Post B sa (fun cls dd H' => W cls dd σ H') Hs H rs (evalIt G pk it ρ rs) fun ds Hs' H' rs' => ∀ J, WalkOk B sa (Keeps B sa pk Hs' H' rs') J ds → R J H'
theorem PI.imp {X : Cx} {tg e : Expr} {t t' : TI} (h : PI X tg e t) (k : ∀ σ H R, t' σ H R → t σ H R) : PI X tg e t' := ⟨fun pins s σ H R I q => h.run pins s σ H R I (k σ H R q)⟩
section
variable {T : Tab} {B : Bd} {G : Cfg} {k : Nat} {N : List Str} {sc : Scope} {X : Cx} {W : WX} {tg : Expr}
/-- a list, a tuple, a text -/
def iSeq (K : PySem.W.Frag) (tl : TE) : TI := fun σ H R => tl σ H fun x H1 => (∃ a, x = .ref a ∧ (∃ xs, SqL K H1 a xs) ∧ R (Itl K a) H1) ∨ (∃ a, x = .ref a ∧ (∃ xs, SqT K H1 a xs) ∧ R (Itt K a) H1) ∨ (∃ z, x = .str z ∧ R (Its z) H1)
theorem pi_seq {l : Expr} {tl : TE} (hl : PE X l tl) : PI X tg l (iSeq X.K tl) := by
  refine ⟨fun pins s σ H R I h => ?_⟩
  refine thn (hl.run pins s σ H _ I h) fun v s1 ⟨x, H1, I1, r1, q1⟩ => ?_
  rcases q1 with ⟨a, e, ⟨xs, hq⟩, q⟩ | ⟨a, e, ⟨xs, hq⟩, q⟩ | ⟨z, e, q⟩
  · subst e
    cases r1
    obtain ⟨its, rv, p, hz⟩ := I1.list hq
    refine wpAny_pyIter_list p.isList ?_
    refine ⟨s1.heap.objs.size, [s1.heap.objs.size], _, _, H1, rfl, I1.kept (t' := s1.toks) fun b o e => Heap.get?_push_of_some _ e, turn_list a _, ⟨_, Heap.get?_push_size _ rfl, rfl, rfl⟩, fun b hb => ?_, q⟩
    have e : b = s1.heap.objs.size := by simpa using hb
    subst e
    exact I1.fpOk (Nat.le_refl _) (I1.hok.fresh (Nat.le_refl _))
  · subst e
    cases r1
    obtain ⟨its, rv, p, hz⟩ := I1.tuple hq
    refine wpAny_pyIter_tuple (show s1.heap.IsTuple a its.toArray from p) ?_
    refine ⟨s1.heap.objs.size, [s1.heap.objs.size], _, _, H1, rfl, I1.kept (t' := s1.toks) fun b o e => Heap.get?_push_of_some _ e, turn_tuple a _, ⟨_, Heap.get?_push_size _ rfl, rfl, rfl⟩, fun b hb => ?_, q⟩
    have e : b = s1.heap.objs.size := by simpa using hb
    subst e
    exact I1.fpOk (Nat.le_refl _) (I1.hok.fresh (Nat.le_refl _))
  · subst e
    obtain ⟨t, rfl⟩ := r1
    cases ha : z.cps.all (· < 128)
    · exact wpAny_pyIter_wide ha (pi_one (tk := s1.toks) I1 _ (turn_str _ z t "str_iterator" (.inr rfl)) ⟨_, Heap.get?_push_size _ rfl, rfl, rfl⟩ q)
    · exact wpAny_pyIter_ascii ha (pi_one (tk := s1.toks) I1 _ (turn_str _ z t "str_ascii_iterator" (.inl rfl)) ⟨_, Heap.get?_push_size _ rfl, rfl, rfl⟩ q)
theorem walk_list {pk : Bool} {sa : Addr} {Hs H : Hp} {rs : Rg} {a : Addr} {vs : List V} {ds : List D} (r : Rps B.K B.cn sa Hs ds vs)
    (h : ∀ Hs' H' rs', Keeps B sa pk Hs H rs Hs' H' rs' → Wd B sa Hs' H' rs' → SqL B.K H' a vs) : WalkOk B sa (Keeps B sa pk Hs H rs) (Itl B.K a) ds := by
  refine ⟨fun Hs' H' rs' i c w hi => ?_, fun Hs' H' rs' i x H'' c w hi y => ?_, fun Hs' H' rs' c w => ⟨vs, h _ _ _ c w, by rw [r.length]; exact Nat.le_refl _⟩⟩
  · exact ⟨vs, vs[i]'(by rw [← r.length]; exact hi), h _ _ _ c w, by simp⟩
  · obtain ⟨e, y⟩ := y
    obtain ⟨d, hd, rd⟩ := r.getV (y vs (h _ _ _ c w))
    exact ⟨e, d, _, hd, w.refl, Rp.mono c.same _ _ rd⟩
theorem walk_tup {pk : Bool} {sa : Addr} {Hs H : Hp} {rs : Rg} {a : Addr} {vs : List V} {ds : List D} (r : Rps B.K B.cn sa Hs ds vs)
    (h : ∀ Hs' H' rs', Keeps B sa pk Hs H rs Hs' H' rs' → Wd B sa Hs' H' rs' → SqT B.K H' a vs) : WalkOk B sa (Keeps B sa pk Hs H rs) (Itt B.K a) ds := by
  refine ⟨fun Hs' H' rs' i c w hi => ?_, fun Hs' H' rs' i x H'' c w hi y => ?_, fun Hs' H' rs' c w => ⟨vs, h _ _ _ c w, by rw [r.length]; exact Nat.le_refl _⟩⟩
  · exact ⟨vs, vs[i]'(by rw [← r.length]; exact hi), h _ _ _ c w, by simp⟩
  · obtain ⟨e, y⟩ := y
    obtain ⟨d, hd, rd⟩ := r.getV (y vs (h _ _ _ c w))
    exact ⟨e, d, _, hd, w.refl, Rp.mono c.same _ _ rd⟩
theorem walk_str {C : Hp → Hp → Rg → Prop} {sa : Addr} (z : Str) : WalkOk B sa C (Its z) (z.cps.toList.map fun c => .str ⟨#[c]⟩) := by
  have hl : (z.cps.toList.map fun c => D.str ⟨#[c]⟩).length = z.cps.size := by simp
  refine ⟨fun Hs' H' rs' i c w hi => ?_, fun Hs' H' rs' i x H'' c w hi y => ?_, fun Hs' H' rs' c w => ?_⟩
  · rw [hl] at hi; exact hi
  · obtain ⟨e, q, hq, rfl⟩ := y
    exact ⟨e, .str ⟨#[q]⟩, _, by simp [hq], w.refl, rfl⟩
  · rw [hl]; exact Nat.le_refl _
theorem walk_rng {C : Hp → Hp → Rg → Prop} {sa : Addr} (lo hi : Int) : WalkOk B sa C (Itr lo (hi - lo).toNat) (rngL lo hi) := by
  have hl : (rngL lo hi).length = (hi - lo).toNat := by simp [rngL]
  refine ⟨fun Hs' H' rs' i c w h => ?_, fun Hs' H' rs' i x H'' c w h y => ?_, fun Hs' H' rs' c w => ?_⟩
  · rw [hl] at h; exact h
  · rw [hl] at h
    obtain ⟨e, rfl⟩ := y
    exact ⟨e, .int (lo + (i : Int)), _, by simp [rngL, h], w.refl, rfl⟩
  · rw [hl]; exact Nat.le_refl _
theorem walk_rngC {C : Hp → Hp → Rg → Prop} {sa : Addr} (lo hi : Int) : WalkOk B sa C (Itc lo (-1) (lo - hi).toNat) (rngC lo hi) := by
  have hl : (rngC lo hi).length = (lo - hi).toNat := by simp [rngC]
  refine ⟨fun Hs' H' rs' i c w h => ?_, fun Hs' H' rs' i x H'' c w h y => ?_, fun Hs' H' rs' c w => ?_⟩
  · rw [hl] at h; exact h
  · rw [hl] at h
    obtain ⟨e, rfl⟩ := y
    refine ⟨e, .int (lo + (i : Int) * _), _, ?_, w.refl, rfl⟩
    simp [rngC, h]
  · rw [hl]; exact Nat.le_refl _
theorem d_seqI (c : CxOk T B G k N sc X) {pk : Bool} {a : E} {a' : Expr} (ha : ∀ pk, PE X a' (tE B G W pk a)) : PI X tg a' (tIt B G W pk (.seq a)) :=
  PI.imp (pi_seq (ha pk)) fun σ H R ⟨sa, Hs0, H0, rs0, Hs, rs, ρ, sr, p⟩ => by
    unfold evalIt at p
    refine toE sr p fun d Hs1 H1 rs1 v e1 sr1 r1 p => ?_
    obtain ⟨ds, hd, q⟩ := Post.optSome p
    have q := q _ _ sr1.wd.refl
    rw [c.hK]
    cases d <;> first | (cases hd; done) | skip
    · -- str
      cases hd
      obtain rfl := rpo_str r1.o
      exact .inr (.inr ⟨_, rfl, q _ (walk_str _)⟩)
    · -- tup
      cases hd
      obtain ⟨a, vs, rfl, h2, h3⟩ := rpo_tup' r1.o
      exact .inr (.inl ⟨a, rfl, ⟨vs, SqT.of (sr1.wd.sub _ _ h2)⟩, q _ (walk_tup h3 fun Hs' H' rs' c w => SqT.of (w.sub _ _ (c.same _ _ h2)))⟩)
    · -- lst
      cases hd
      unfold RpB at r1
      cases pk with
      | true =>
        rw [if_pos rfl] at r1
        rcases r1 with ⟨a, vs, rfl, h2, h3⟩ | ⟨s, a, h1, h2, h3, h4, h5⟩
        · exact .inl ⟨a, rfl, ⟨vs, SqL.of (sr1.wd.sub _ _ h2)⟩, q _ (walk_list h3 fun Hs' H' rs' c w => SqL.of (w.sub _ _ (c.same _ _ h2)))⟩
        · cases s with
          | d x => cases h1
          | od t ks vs => cases h2
          | ol xs =>
            cases h2
            obtain ⟨h6, vs, h7, h8⟩ := h5
            refine .inl ⟨a, h3, ⟨vs, SqL.of h7⟩, q _ (walk_list h8 fun Hs' H' rs' c w => ?_)⟩
            unfold Keeps at c
            rw [if_pos rfl] at c
            exact SqL.of (c.keep a _ (.inl h4) h7)
      | false =>
        rw [if_neg (by simp)] at r1
        obtain ⟨a, vs, rfl, h2, h3⟩ := r1
        exact .inl ⟨a, rfl, ⟨vs, SqL.of (sr1.wd.sub _ _ h2)⟩, q _ (walk_list h3 fun Hs' H' rs' c w => SqL.of (w.sub _ _ (c.same _ _ h2)))⟩
    · -- scr
      cases hd
      obtain ⟨a, vs, rfl, h2, h3⟩ := rpo_ns r1.o fun s h => by cases s <;> simp [SV.isOwn, svD] at h ⊢
      exact .inl ⟨a, rfl, ⟨vs, sr1.wd.sub.seq h2⟩, q _ (walk_list h3 fun Hs' H' rs' c w => w.sub.seq (c.same.seq h2))⟩
    · -- ktp
      cases hd
      obtain ⟨a, vs, rfl, h2, h3⟩ := rpo_ns r1.o fun s h => by cases s <;> simp [SV.isOwn, svD] at h ⊢
      exact .inr (.inl ⟨a, rfl, ⟨vs, sqT_mono sr1.wd.sub h2⟩, q _ (walk_tup h3 fun Hs' H' rs' c w => sqT_mono w.sub (sqT_mono c.same h2))⟩)
theorem pa1 {a : E} {a' : Expr} (h : okX a' = true) (ha : ∀ pk, PE X a' (tE B G W pk a)) : ∀ pk, PA X [a'] (tAr B G W pk (.cons a .nil)) := pa_consM h ha pa_nilM
theorem starOne {a' : Expr} {env : PySem.Env} (h : okX a' = true) : starEach [a'] env = [(false, eval a' env)] := starEach_ok h
theorem small62_iff {i : Int} (h : small62 i = true) : -(2 ^ 62) ≤ i ∧ i < 2 ^ 62 := by unfold small62 at h; simpa using h
theorem boot_range' : ("range" : Str) ∈ bltNames := by decide
theorem d_rng1 (c : CxOk T B G k N sc X) {pk : Bool} {a : E} {a' : Expr} {p pos : Pos} (hg : glB sc "range" = true) (ok : okX a' = true) (ha : ∀ pk, PE X a' (tE B G W pk a)) : PI X tg (.Call (.Name "range" p) [a'] [] pos) (tIt B G W pk (.rng1 a)) :=
  PI.imp (pi_range1 (c.gl hg) (c.blt _ boot_range') (pa_cons (ha true) pa_nil (starEach_ok ok)) (starOne ok)) fun σ H R ⟨sa, Hs0, H0, rs0, Hs, rs, ρ, sr, p⟩ => by
    unfold evalIt at p
    refine toE sr p fun d Hs1 H1 rs1 v e1 sr1 r1 p => ?_
    cases d <;> first | exact (show False from p).elim | skip
    rename_i j
    obtain rfl := rpo_int r1.o
    dsimp only at p
    split at p
    · rename_i hs
      obtain ⟨s1, s2⟩ := small62_iff hs
      refine ⟨j, rfl, s1, s2, ?_⟩
      have := walk_rng (B := B) (C := Keeps B sa pk Hs1 H1 rs1) (sa := sa) 0 j
      rw [Int.sub_zero] at this
      exact p _ _ sr1.wd.refl _ this
    · exact (show False from p).elim
theorem d_rng2 (c : CxOk T B G k N sc X) {pk : Bool} {a b : E} {a' b' : Expr} {p pos : Pos} (hg : glB sc "range" = true) (ok : okX a' = true) (ok2 : okX b' = true) (ha : ∀ pk, PE X a' (tE B G W pk a)) (hb : ∀ pk, PE X b' (tE B G W pk b)) : PI X tg (.Call (.Name "range" p) [a', b'] [] pos) (tIt B G W pk (.rng2 a b)) :=
  PI.imp (pi_range2 (c.gl hg) (c.blt _ boot_range') (pa_cons (ha true) (pa_cons (hb true) pa_nil (starEach_ok ok2)) (starEach_ok ok)) (by rw [starEach_ok ok, starOne ok2]) (starOne ok2)) fun σ H R ⟨sa, Hs0, H0, rs0, Hs, rs, ρ, sr, p⟩ => by
    unfold evalIt at p
    refine toE sr p fun d Hs1 H1 rs1 v e1 sr1 r1 p => ?_
    refine toE sr1 p fun d2 Hs2 H2 rs2 v2 e2 sr2 r2 p' => ?_
    clear p
    have p := p'
    clear p'
    cases d <;> first | exact (show False from p).elim | skip
    rename_i i
    cases d2 <;> first | exact (show False from p).elim | skip
    rename_i j
    obtain rfl := rpo_int r1.o
    obtain rfl := rpo_int r2.o
    dsimp only at p
    split at p
    · rename_i hs
      rw [Bool.and_eq_true] at hs
      obtain ⟨s1, s2⟩ := small62_iff hs.1
      obtain ⟨s3, s4⟩ := small62_iff hs.2
      exact ⟨i, j, rfl, ⟨s1, s2, s3, s4⟩, p _ _ sr2.wd.refl _ (walk_rng i j)⟩
    · exact (show False from p).elim
theorem d_rng3 (c : CxOk T B G k N sc X) {pk : Bool} {a b e : E} {a' b' c' : Expr} {p pos : Pos} (hg : glB sc "range" = true) (ok : okX a' = true) (ok2 : okX b' = true) (ok3 : okX c' = true) (ha : ∀ pk, PE X a' (tE B G W pk a)) (hb : ∀ pk, PE X b' (tE B G W pk b)) (hc : ∀ pk, PE X c' (tE B G W pk e)) : PI X tg (.Call (.Name "range" p) [a', b', c'] [] pos) (tIt B G W pk (.rng3 a b e)) :=
  PI.imp (pi_range3 (c.gl hg) (c.blt _ boot_range') (pa_cons (ha true) (pa_cons (hb true) (pa_cons (hc true) pa_nil (starEach_ok ok3)) (starEach_ok ok2)) (starEach_ok ok)) (starEach_ok ok) (noStars (by simp [ok2, ok3]) _)) fun σ H R ⟨sa, Hs0, H0, rs0, Hs, rs, ρ, sr, p⟩ => by
    unfold evalIt at p
    refine toE sr p fun d Hs1 H1 rs1 v e1 sr1 r1 p => ?_
    refine toE sr1 p fun d2 Hs2 H2 rs2 v2 e2 sr2 r2 p2 => ?_
    refine toE sr2 p2 fun d3 Hs3 H3 rs3 v3 e3 sr3 r3 p' => ?_
    clear p p2
    have p := p'
    clear p'
    cases d <;> first | exact (show False from p).elim | skip
    rename_i i
    cases d2 <;> first | exact (show False from p).elim | skip
    rename_i j
    cases d3 <;> first | exact (show False from p).elim | skip
    rename_i l
    obtain rfl := rpo_int r1.o
    obtain rfl := rpo_int r2.o
    obtain rfl := rpo_int r3.o
    dsimp only at p
    split at p
    · rename_i hs
      rw [Bool.and_eq_true, Bool.and_eq_true, decide_eq_true_eq] at hs
      obtain ⟨s1, s2⟩ := small62_iff hs.1.1
      obtain ⟨s3, s4⟩ := small62_iff hs.1.2
      obtain rfl := hs.2
      exact ⟨i, j, -1, (i - j).toNat, rfl, RgC.neg s1 s2 s3 s4, p _ _ sr3.wd.refl _ (walk_rngC i j)⟩
    · exact (show False from p).elim
/-! targets -/
def gNames : List Nat → TGs
  | [] => gNil
  | i :: r => gCons (gName i) (gNames r)
def gTg (K : PySem.W.Frag) : List Nat → TG
  | [i] => gName i
  | is => gTup K is.length (gNames is)
theorem ownTg_of {scope rel : Scope} {x : Str} (h : ownTg scope rel x = true) : Loc rel x ∧ ((scope.names.lookup x == some NameKind.cell) = true ∨ rel.names.lookup x = some .local) := by
  unfold ownTg at h
  split at h
  · rename_i e; exact ⟨.inl e, .inr e⟩
  · rename_i e
    refine ⟨.inr e, .inl ?_⟩
    rw [decide_eq_true_eq] at h
    rw [h]; rfl
  · cases h
structure TgOk (N : List Str) (scope rel : Scope) (X : Cx) : Prop where
  nd : X.N.Nodup
  hN : X.N = N
  hsc : X.env.scope = rel
  fn : ∀ x, (scope.names.lookup x == some NameKind.cell) = true → X.fn x = true
  calm : X.calm = true
theorem tgs_ok {scope rel : Scope} (c : TgOk N scope rel X) : ∀ (is : List Nat) (es : List Expr), isTgs N scope rel is es = true → PGs X es (gNames is) ∧ (assignEach es X.env).length = is.length ∧ (assignEach es X.env).findIdx? (·.1) = none
  | [], [], _ => ⟨pgs_nil, rfl, rfl⟩
  | [], _ :: _, h => by simp [isTgs] at h
  | _ :: _, [], h => by simp [isTgs] at h
  | i :: is, e :: es, h => by
    unfold isTgs at h
    rw [Bool.and_eq_true] at h
    obtain ⟨h1, h2⟩ := h
    split at h1
    · rename_i x pos
      rw [Bool.and_eq_true, decide_eq_true_eq] at h1
      obtain ⟨q1, q2, q3⟩ := tgs_ok c is es h2
      obtain ⟨o1, o2⟩ := ownTg_of h1.2
      refine ⟨pgs_cons (pg_name c.nd (by rw [c.hN]; exact h1.1) (by rw [c.hsc]; exact o1) (o2.imp (c.fn x) (by rw [c.hsc]; exact id))) q1, ?_, ?_⟩
      · show (_ :: assignEach es X.env).length = _
        simp [q2]
      · show List.findIdx? _ ((false, _) :: assignEach es X.env) = none
        rw [List.findIdx?_cons]
        simp [q3]
    · cases h1
theorem tg_ok {scope rel : Scope} (c : TgOk N scope rel X) {xs : List Nat} {e : Expr} (h : isTg N scope rel xs e = true) : PG X e (gTg X.K xs) := by
  unfold isTg at h
  split at h
  · rename_i i x pos
    rw [Bool.and_eq_true, decide_eq_true_eq] at h
    obtain ⟨o1, o2⟩ := ownTg_of h.2
    exact pg_name c.nd (by rw [c.hN]; exact h.1) (by rw [c.hsc]; exact o1) (o2.imp (c.fn x) (by rw [c.hsc]; exact id))
  · rename_i es k pos
    rw [Bool.and_eq_true, decide_eq_true_eq] at h
    obtain ⟨q1, q2, q3⟩ := tgs_ok c xs es h.2
    have : gTg X.K xs = gTup X.K xs.length (gNames xs) := by
      match xs, h.1 with
      | [], _ => rfl
      | [i], z => exact absurd (show [i].length = 1 from rfl) z
      | _ :: _ :: _, _ => rfl
    rw [this]
    exact pg_tup c.calm q1 q2 q3
  · cases h
/-- a store into slots -/
theorem putAll_len : ∀ (is : List Nat) (ds : List D) (ρ ρ' : Env), putAll is ds ρ = some ρ' → is.length = ds.length ∧ ρ'.length = ρ.length
  | [], [], ρ, ρ', h => by cases h; exact ⟨rfl, rfl⟩
  | [], _ :: _, ρ, ρ', h => by cases h
  | _ :: _, [], ρ, ρ', h => by cases h
  | i :: is, d :: ds, ρ, ρ', h => by
    obtain ⟨h1, h2⟩ := putAll_len is ds _ _ h
    exact ⟨by simp [h1], by rw [h2]; simp⟩
theorem SR.put {sa : Addr} {Hs0 H0 Hs H : Hp} {rs0 rs : Rg} {ρ : Env} {σ : L2.St} {d : D} {v : V} (r : SR B sa Hs0 H0 rs0 Hs H rs ρ σ) (i : Nat) (h : Rp B.K B.cn sa Hs d v) : SR B sa Hs0 H0 rs0 Hs H rs (ρ.set i (some (.d d))) (σ.set i (some v)) := by
  refine ⟨r.sne, r.ext, by simp [r.len], fun j s e => ?_, fun j l s t w e1 e2 o1 o2 v1 v2 => ?_⟩
  · by_cases hj : i = j
    · subst hj
      have hlt : i < ρ.length := by
        have := (List.getElem?_eq_some_iff.mp e).1
        simpa using this
      rw [List.getElem?_set_self hlt] at e
      cases e
      exact ⟨v, by rw [List.getElem?_set_self (by rw [← r.len]; exact hlt)], h⟩
    · rw [List.getElem?_set_ne hj] at e
      obtain ⟨w, h1, h2⟩ := r.slot j s e
      exact ⟨w, by rw [List.getElem?_set_ne hj]; exact h1, h2⟩
  · have nj : i ≠ j := by
      rintro rfl
      have hlt : i < ρ.length := by
        have := (List.getElem?_eq_some_iff.mp e1).1
        simpa using this
      rw [List.getElem?_set_self hlt] at e1
      cases e1; cases o1
    have nl : i ≠ l := by
      rintro rfl
      have hlt : i < ρ.length := by
        have := (List.getElem?_eq_some_iff.mp e2).1
        simpa using this
      rw [List.getElem?_set_self hlt] at e2
      cases e2; cases o2
    rw [List.getElem?_set_ne nj] at e1 v1
    rw [List.getElem?_set_ne nl] at e2 v2
    exact r.apart j l s t w e1 e2 o1 o2 v1 v2
theorem putAll_ok : ∀ (is : List Nat) (ds : List D) (vs : List V) {sa : Addr} {Hs0 H0 Hs H : Hp} {rs0 rs : Rg} {ρ ρ' : Env} {σ : L2.St} {Q : L2.St → Hp → Prop}, SR B sa Hs0 H0 rs0 Hs H rs ρ σ → putAll is ds ρ = some ρ' → Rps B.K B.cn sa Hs ds vs →
    (∀ σ', σ'.length = σ.length → (∀ j, j ∉ is → σ'[j]? = σ[j]?) → SR B sa Hs0 H0 rs0 Hs H rs ρ' σ' → Q σ' H) → gNames is vs σ H Q
  | [], [], vs, sa, Hs0, H0, Hs, H, rs0, rs, ρ, ρ', σ, Q, sr, h, r, q => by cases h; cases r; exact ⟨rfl, q _ rfl (fun _ _ => rfl) sr⟩
  | [], _ :: _, vs, sa, Hs0, H0, Hs, H, rs0, rs, ρ, ρ', σ, Q, sr, h, r, q => by cases h
  | _ :: _, [], vs, sa, Hs0, H0, Hs, H, rs0, rs, ρ, ρ', σ, Q, sr, h, r, q => by cases h
  | i :: is, d :: ds, vs, sa, Hs0, H0, Hs, H, rs0, rs, ρ, ρ', σ, Q, sr, h, ⟨v, r, e, r1, r2⟩, q => by
    subst e
    refine ⟨v, r, rfl, putAll_ok is ds r (sr.put i r1) h r2 fun σ' hl hk sr' => q σ' (by simpa using hl) (fun j hj => ?_) sr'⟩
    rw [hk j (fun z => hj (List.mem_cons_of_mem _ z)), List.getElem?_set_ne (fun z => hj (by rw [← z]; exact List.mem_cons_self ..))]
theorem bind_ok {xs : List Nat} {d : D} {v : V} {sa : Addr} {Hs0 H0 Hs H : Hp} {rs0 rs : Rg} {ρ ρ' : Env} {σ : L2.St} {Q : L2.St → Hp → Prop} (sr : SR B sa Hs0 H0 rs0 Hs H rs ρ σ) (h : bindT xs d ρ = some ρ') (r : Rp B.K B.cn sa Hs d v)
    (q : ∀ σ', σ'.length = σ.length → (∀ j, j ∉ xs → σ'[j]? = σ[j]?) → SR B sa Hs0 H0 rs0 Hs H rs ρ' σ' → Q σ' H) : gTg B.K xs v σ H Q := by
  have many : ∀ ds, d = .tup ds → putAll xs ds ρ = some ρ' → gTup B.K xs.length (gNames xs) v σ H Q := by
    intro ds e h'
    subst e
    clear h
    have h := h'
    clear h'
    obtain ⟨a, vs, rfl, h2, h3⟩ := r
    exact ⟨a, vs, rfl, SqT.of (sr.wd.sub _ _ h2), by rw [← h3.length, (putAll_len _ _ _ _ h).1], putAll_ok xs ds vs sr h h3 q⟩
  match xs, h with
  | [i], h =>
    cases h
    exact q _ (by simp) (fun j hj => by rw [List.getElem?_set_ne (fun z => hj (by simp [z]))]) (sr.put i r)
  | [], h =>
    cases d <;> first | (cases h; done) | exact many _ rfl h
  | i :: j :: l, h =>
    cases d <;> first | (cases h; done) | exact many _ rfl h
end
end Mp

set_option Elab.async false
set_option linter.all false
set_option maxRecDepth 100000
set_option maxHeartbeats 2000000
/-! Mp, part 15: list comprehensions. -/
namespace Mp
open PySem PySem.Spec L2
def WF : WX := fun _ _ _ _ => False
theorem takesWF {X : Cx} : Takes X WF := fun _ _ ⟨_, _, _, _, _, _, _, _, _, _, _, _, _, _, _, _, w⟩ => w.elim
theorem nox_bind {α β γ : Type} (a : M α) (f : α → M β) (h : β → M γ) : M.bind (M.nox (M.bind a f)) h = M.bind (M.nox a) fun x => M.bind (M.nox (f x)) h := by
  funext rs
  simp only [M.bind, M.nox]
  cases e : a rs <;> rfl
theorem nox_ok {α β : Type} (a : α) (h : α → M β) : M.bind (M.nox (M.ok a)) h = h a := rfl
section
variable {α β : Type} {B : Bd} {sa : Addr} {W : Value → Option Addr → Hp → Prop} {Hs H Hs1 H1 : Hp} {rs rs1 : Rg}
/-- a step under the comprehension, measured from its start -/
theorem Post.nox {W' : Value → Option Addr → Hp → Prop} {m : M α} {f : α → M β} {Q : β → Hp → Hp → Rg → Prop} {rs' : Rg} (h : Post B sa W Hs H rs (M.bind (M.nox m) f rs') Q) (e : Ext B sa Hs H rs Hs1 H1 rs1) :
    Post B sa W' Hs1 H1 rs1 (m rs') (fun a Hs2 H2 rs2 => Ext B sa Hs H rs Hs2 H2 rs2 ∧ Post B sa W Hs H rs (f a rs2) Q) := by
  unfold M.bind M.nox at h
  cases er : m rs' with
  | ok a rs2 => rw [er] at h; exact fun Hs2 H2 e2 => ⟨e.trans e2, h⟩
  | exc c d rs2 => rw [er] at h; exact h.elim
  | stuck => rw [er] at h; exact h.elim
theorem Ext.own {Hs' H' : Hp} {rs' : Rg} {p : Addr} {o : HO} (e : Ext B sa Hs H rs Hs' H' rs') (hp : H p = none) (hs : Hs' p = none) (n : p ≠ sa) : Ext B sa Hs H rs Hs' (upd H' p o) rs' := by
  refine ⟨⟨fun b u q => ?_, by rw [upd_ne (Ne.symm n)]; exact e.wd.sne, fun xs q => ?_⟩, e.ss, fun b u c q => ?_, e.new, e.som⟩
  · have hb : b ≠ p := ne_of_none q hs
    rw [upd_ne hb]; exact e.wd.sub b u q
  · obtain ⟨h1, vs, h2, h3⟩ := e.wd.reg xs q
    exact ⟨h1, vs, by rw [upd_ne (Ne.symm n)]; exact h2, h3⟩
  · rw [upd_ne (ne_of_none q hp)]; exact e.keep b u c q
end
section
variable {B : Bd} {sa : Addr} {Hs0 H0 Hs H : Hp} {rs0 rs : Rg} {ρ : Env} {σ : L2.St}
theorem wipeE_len (ρ : Env) : ∀ vs : List Nat, (wipeE ρ vs).length = ρ.length
  | [] => rfl
  | v :: vs => by unfold wipeE; rw [List.length_set, wipeE_len ρ vs]
theorem wipeE_some {i : Nat} {s : SV} : ∀ {vs : List Nat}, (wipeE ρ vs)[i]? = some (some s) → ρ[i]? = some (some s) ∧ i ∉ vs
  | [], h => ⟨h, by simp⟩
  | v :: vs, h => by
    unfold wipeE at h
    by_cases hi : v = i
    · subst hi
      by_cases hv : v < (wipeE ρ vs).length
      · rw [List.getElem?_set_self hv] at h; cases h
      · rw [List.getElem?_eq_none (by simpa using hv)] at h; cases h
    · rw [List.getElem?_set_ne hi] at h
      obtain ⟨h1, h2⟩ := wipeE_some h
      exact ⟨h1, by simp only [List.mem_cons, not_or]; exact ⟨fun e => hi e.symm, h2⟩⟩
theorem wipe_not {σ : L2.St} {i : Nat} : ∀ {vs : List Nat}, i ∉ vs → (wipe σ vs)[i]? = σ[i]?
  | [], _ => rfl
  | v :: vs, h => by
    unfold wipe
    rw [List.getElem?_set_ne (by rintro rfl; exact h (List.mem_cons_self ..)), wipe_not (fun z => h (List.mem_cons_of_mem _ z))]
theorem wipe_in {σ : L2.St} {i : Nat} : ∀ {vs : List Nat}, i ∈ vs → (wipe σ vs)[i]? = if i < σ.length then some none else none
  | v :: vs, h => by
    unfold wipe
    by_cases hi : v = i
    · subst hi
      by_cases hv : v < σ.length
      · rw [List.getElem?_set_self (by rw [wipe_length]; exact hv), if_pos hv]
      · rw [List.getElem?_eq_none (by rw [List.length_set, wipe_length]; omega), if_neg hv]
    · rw [List.getElem?_set_ne hi]
      rcases List.mem_cons.mp h with h | h
      · exact absurd h.symm hi
      · exact wipe_in h
theorem wipe_eq {σ' : L2.St} {vs : List Nat} (hl : σ'.length = (wipe σ vs).length) (hk : ∀ j, j ∉ vs → σ'[j]? = (wipe σ vs)[j]?) : wipe σ' vs = wipe σ vs := by
  apply List.ext_getElem?
  intro i
  by_cases hi : i ∈ vs
  · rw [wipe_in hi, wipe_in hi, hl, wipe_length]
  · rw [wipe_not hi, hk i hi]
theorem SR.wipe (r : SR B sa Hs0 H0 rs0 Hs H rs ρ σ) (vs : List Nat) : SR B sa Hs0 H0 rs0 Hs H rs (wipeE ρ vs) (L2.wipe σ vs) := by
  have at_ : ∀ {i : Nat} {v : V}, i ∉ vs → ((L2.wipe σ vs)[i]? = some (some v) ↔ σ[i]? = some (some v)) := fun hi => by rw [wipe_not hi]
  refine ⟨r.sne, r.ext, by rw [wipeE_len, wipe_length, r.len], fun i s h => ?_, fun i j s t v h1 h2 o1 o2 v1 v2 => ?_⟩
  · obtain ⟨h1, h2⟩ := wipeE_some h
    obtain ⟨v, q1, q2⟩ := r.slot i s h1
    exact ⟨v, (at_ h2).mpr q1, q2⟩
  · obtain ⟨p1, p2⟩ := wipeE_some h1
    obtain ⟨p3, p4⟩ := wipeE_some h2
    exact r.apart i j s t v p1 p3 o1 o2 ((at_ p2).mp v1) ((at_ p4).mp v2)
end
/-- a comprehension's tests -/
def tCs (B : Bd) (G : Cfg) (W : WX) (cs : Es) : TT := fun σ H Q => ∃ sa Hs0 H0 rs0 Hs rs ρ, SR B sa Hs0 H0 rs0 Hs H rs ρ σ ∧
  Post B sa (fun cls dd H' => W cls dd σ H') Hs H rs (evalCs G cs ρ rs) fun b Hs' H' _ => Q b H'
theorem PTs.imp {X : Cx} {e : List Expr} {t t' : TT} (h : PTs X e t) (k : ∀ σ H Q, t' σ H Q → t σ H Q) : PTs X e t' := ⟨fun pins s σ H Q I q => h.run pins s σ H Q I (k σ H Q q)⟩
section
variable {T : Tab} {B : Bd} {G : Cfg} {k : Nat} {N : List Str} {sc : Scope} {X : Cx} {W : WX} {tg : Expr}
theorem cs_nil : PTs X [] (tCs B G W .nil) := PTs.imp pts_nil fun σ H Q ⟨sa, Hs0, H0, rs0, Hs, rs, ρ, sr, p⟩ => p _ _ sr.wd.refl
theorem cs_one {c : E} {c' : Expr} (h : PT X c' (tT B G W c)) : PTs X [c'] (tCs B G W (.cons c .nil)) := PTs.imp (pts_one h) fun σ H Q ⟨sa, Hs0, H0, rs0, Hs, rs, ρ, sr, p⟩ => by
  unfold evalCs at p
  refine toT sr p fun d Hs1 H1 rs1 e1 sr1 p => ?_
  cases d <;> first | exact (show False from p).elim | skip
  rename_i z
  refine ⟨z, rfl, ?_⟩
  cases z with
  | true => exact p _ _ sr1.wd.refl
  | false => exact p _ _ sr1.wd.refl
theorem own_map (N : List Str) : ∀ xs : List Nat, (ownOf N xs).map (·.2) = xs
  | [] => rfl
  | x :: r => by
    have := own_map N r
    unfold ownOf at this ⊢
    rw [List.map_cons, List.map_cons, this]
/-- the context of a block -/
theorem CxOk.blk (c : CxOk T B G k N sc X) (s : Shared) (H : Hp) (scope : Scope) (C : Addr) (cl : List (Str × Addr)) (fp : List Addr) : CxOk T B G k N (relS scope sc) (X.blk s H scope (compEnvC scope cl C X.env) fp) :=
  ⟨c.hK, c.hN, c.nd, by show relS scope X.env.scope = _; rw [c.hsc], c.calm, c.room, c.fns, c.cls, c.mts, c.ini, c.sts, c.cons, c.blt⟩
theorem folded_ok {iter : Expr} (h : okX iter = true) : ∀ x, foldedSetIterable iter X.env x = pure x := by
  intro x
  cases iter <;> first | rfl | cases h
def compF (G : Cfg) (el : E) (xs : List Nat) (cs : Es) (ρ : Env) : D → M (Option D) := fun d => M.bind (M.opt (bindT xs d (wipeE ρ xs))) fun ρ' => M.bind (evalCs G cs ρ') fun k =>
        if k then M.bind (evalE G false el ρ') fun y => M.ok (some y) else M.ok none
theorem comp_eq (el : E) (xs : List Nat) (it : It) (cs : Es) (pk : Bool) (ρ : Env) : evalE G pk (.comp el xs it cs) ρ = M.bind (evalIt G true it ρ) fun ds => if ds.length ≤ lim then M.bind (M.nox (loopC (compF G el xs cs ρ) ds)) fun ys => M.ok (.lst ys) else M.stuck := rfl
theorem loopC_cons (F : D → M (Option D)) (x : D) (r : List D) : loopC F (x :: r) = M.bind (F x) fun y => M.bind (loopC F r) fun ys => M.ok (match y with | some y => y :: ys | none => ys) := rfl
theorem comp_core {el : E} {xs : List Nat} {cs : Es} {sa : Addr} {W0 : Value → Option Addr → Hp → Prop} {Hs0 H0 Hs1 H1 : Hp} {rs0 rs1 : Rg} {ρ : Env} {σ : L2.St} {ds : List D} {J : L2.It} {Q : VK} (sr1 : SR B sa Hs0 H0 rs0 Hs1 H1 rs1 ρ σ) (hl : ds.length ≤ lim) (hJ : WalkOk B sa (Keeps B sa true Hs1 H1 rs1) J ds)
    (p : Post B sa W0 Hs1 H1 rs1 (M.bind (M.nox (loopC (compF G el xs cs ρ) ds)) (fun ys => M.ok (.lst ys)) rs1) (fun d Hs' H' _ => ∀ v, RpF B sa H1 Hs' H' d v → Q v H')) (L : Addr) (hL : H1 L = none) :
    ∃ W : Nat → Nat → Hp → Prop, (∃ m, W 0 m (upd H1 L (.lst []))) ∧ ∀ i m H, W i m H →
  (J.stop i H ∧ Q (.ref L) H) ∨ (J.go i H ∧ ∃ Nx : Hp → Prop, (∀ H', Nx H' → ∃ m', m' < m ∧ W (i + 1) m' H') ∧ ∀ x H', J.yld i H x H' → gTg B.K xs x (L2.wipe σ xs) H' fun σ2 H2 => L2.wipe σ2 xs = L2.wipe σ xs ∧ tCs B G WF cs σ2 H2 fun b H3 =>
    if b = true then tE B G WF false el σ2 H3 fun y H4 => ∃ acc, H4 L = some (.lst acc) ∧ acc.length < sizeLine ∧ Nx (upd H4 L (.lst (acc ++ [y]))) else Nx H3) := by
  have nL : L ≠ sa := fun z => sr1.wd.sne (z ▸ hL)
  have hsL : Hs1 L = none := by
    cases q : Hs1 L with
    | none => rfl
    | some u => rw [sr1.wd.sub L u q] at hL; cases hL
  refine ⟨fun i m H' => m = ds.length - i ∧ i ≤ ds.length ∧ ∃ Hs' rs' done acc, Ext B sa Hs1 H1 rs1 Hs' H' rs' ∧ H' L = some (.lst acc) ∧ Hs' L = none ∧ Rps B.K B.cn sa Hs' done acc ∧ done.length ≤ i ∧
    Post B sa W0 Hs1 H1 rs1 (M.bind (M.nox (loopC (compF G el xs cs ρ) (ds.drop i))) (fun ys => M.ok (.lst (done ++ ys))) rs') (fun d Hs' H' _ => ∀ v, RpF B sa H1 Hs' H' d v → Q v H'),
    ⟨ds.length, by simp, Nat.zero_le _, Hs1, rs1, [], [], sr1.wd.allocO hL, upd_same, hsL, rfl, Nat.le_refl _, by exact p⟩, ?_⟩
  rintro i m H5 ⟨rfl, hi5, Hs5, rs5, done, acc, x5, l5, n5, r5, d5, p5⟩
  have kp : Keeps B sa true Hs1 H1 rs1 Hs5 H5 rs5 := by unfold Keeps; rw [if_pos rfl]; exact x5
  by_cases hlt : i < ds.length
  · refine .inr ⟨hJ.go _ _ _ _ kp x5.wd hlt, _, fun H' q => ⟨ds.length - (i + 1), by omega, q⟩, fun x H6 y6 => ?_⟩
    obtain ⟨rfl, d, Hs6, hd, x6, rd⟩ := hJ.yld _ _ _ _ _ _ kp x5.wd hlt y6
    have n6 := x6.new L _ n5 l5 (fun _ z => by cases z)
    have r6 := Rps.mono x6.ss _ _ r5
    have x56 := x5.trans x6
    have ed : ds.drop i = d :: ds.drop (i + 1) := by
      rw [List.drop_eq_getElem_cons hlt]
      congr 1
      rw [List.getElem?_eq_getElem hlt] at hd
      exact Option.some.inj hd
    rw [ed, loopC_cons, nox_bind] at p5
    unfold compF at p5
    rw [nox_bind] at p5
    have sr5 := sr1.mono x56
    cases hbt : bindT xs d (wipeE ρ xs) with
    | none =>
      rw [hbt] at p5
      exact (show False from p5).elim
    | some ρ' =>
      rw [hbt] at p5
      have p5 : Post B sa W0 Hs1 H1 rs1 (M.bind (M.nox (M.bind (evalCs G cs ρ') fun k => if k then M.bind (evalE G false el ρ') fun y => M.ok (some y) else M.ok none))
        (fun y => M.bind (M.nox (M.bind (loopC (compF G el xs cs ρ) (ds.drop (i + 1))) fun ys => M.ok (match y with | some y => y :: ys | none => ys))) (fun ys => M.ok (.lst (done ++ ys)))) rs5) (fun d Hs' H' _ => ∀ v, RpF B sa H1 Hs' H' d v → Q v H') := p5
      rw [nox_bind] at p5
      refine bind_ok (sr5.wipe xs) hbt rd fun σ' hl' hk' sr' => ⟨wipe_eq hl' hk', ?_⟩
      refine ⟨sa, Hs0, H0, rs0, Hs6, rs5, ρ', sr', Post.mono (Post.nox p5 x56) fun b Hs7 H7 rs7 e7 ⟨x7, p7⟩ => ?_⟩
      have sr7 := sr'.mono e7
      cases b with
      | false =>
        simp only [Bool.false_eq_true, if_false] at p7 ⊢
        rw [nox_ok] at p7
        refine ⟨trivial, hlt, Hs7, rs7, done, acc, x7, e7.keep L _ (.inl nL) l5, e7.new L _ n6 l5 (fun _ z => by cases z), Rps.mono e7.ss _ _ r6, by omega, ?_⟩
        rw [nox_bind] at p7
        exact p7
      | true =>
        simp only [if_true] at p7 ⊢
        rw [nox_bind] at p7
        refine ⟨sa, Hs0, H0, rs0, Hs7, rs7, ρ', sr7, Post.mono (Post.nox p7 x7) fun y Hs8 H8 rs8 e8 ⟨x8, p8⟩ v r8 => ?_⟩
        rw [nox_ok] at p8
        have e58 := e7.trans e8
        have l8 := e58.keep L _ (.inl nL) l5
        have n8 := e58.new L _ n6 l5 (fun _ z => by cases z)
        refine ⟨acc, l8, by rw [← r6.length, ← lim_eq]; omega, trivial, hlt, Hs8, rs8, done ++ [y], acc ++ [v], x8.own hL n8 nL, upd_same, n8, ?_, by simp; omega, ?_⟩
        · unfold RpB at r8
          rw [if_neg (by simp)] at r8
          exact Rps.append (Rps.mono e58.ss _ _ r6) (Rps.one r8)
        · rw [nox_bind] at p8
          refine cast ?_ p8
          congr 2
          funext ys
          show M.ok (D.lst (done ++ (y :: ys))) = _
          simp
  · have : i = ds.length := by omega
    subst this
    refine .inl ⟨hJ.stop _ _ _ kp x5.wd, ?_⟩
    rw [List.drop_length] at p5
    have p5 : Post B sa W0 Hs1 H1 rs1 (M.ok (D.lst (done ++ [])) rs5) (fun d Hs' H' _ => ∀ v, RpF B sa H1 Hs' H' d v → Q v H') := p5
    rw [List.append_nil] at p5
    exact p5 Hs5 H5 x5 _ ⟨L, rfl, hL, n5, acc, l5, r5⟩

theorem comp_read (c : CxOk T B G k N sc X) {el : E} {xs : List Nat} {it : It} {cs : Es} {σ : L2.St} {H : Hp} {Q : VK} (h : tF B G W (.comp el xs it cs) σ H Q) :
    tLc (tIt B G W true it) (gTg B.K xs) (tCs B G WF cs) (tE B G WF false el) ((ownOf N xs).map (·.2)) σ H Q := by
  obtain ⟨sa, Hs0, H0, rs0, Hs, rs, ρ, sr, p⟩ := h
  rw [comp_eq] at p
  rw [own_map]
  refine ⟨sa, Hs0, H0, rs0, Hs, rs, ρ, sr, Post.bind p fun ds Hs1 H1 rs1 e1 p J hJ L hL => ?_⟩
  split at p
  case isFalse => exact (show False from p).elim
  case isTrue hl =>
  refine comp_core (Q := Q) (sr.mono e1) hl hJ (Post.mono p fun d Hs' H' rs' e q v r => q v ?_) L hL
  cases d <;> first
    | exact r
    | (obtain ⟨a, h1, h2, h3⟩ := r; exact ⟨a, h1, up_none e1 h2, h3⟩)

theorem comp_parts (c : CxOk T B G k N sc X) {el : E} {xs : List Nat} {cs : Es} {el' tg : Expr} {ifs : List Expr} {scope : Scope} (ht : isTg N scope (relS scope sc) xs tg = true)
    (hcs : ∀ X', CxOk T B G k N (relS scope sc) X' → PTs X' ifs (tCs B G WF cs)) (he : ∀ X', CxOk T B G k N (relS scope sc) X' → ∀ pk, PE X' el' (tE B G WF pk el)) :
    (∀ (s : Shared) (H : Hp) (C : Addr) (cl : List (Str × Addr)) (fp : List Addr), PG (X.blk s H scope (compEnvC scope cl C X.env) fp) tg (gTg B.K xs)) ∧
    (∀ (s : Shared) (H : Hp) (C : Addr) (cl : List (Str × Addr)) (fp : List Addr), PTs (X.blk s H scope (compEnvC scope cl C X.env) fp) ifs (tCs B G WF cs)) ∧
    (∀ (s : Shared) (H : Hp) (C : Addr) (cl : List (Str × Addr)) (fp : List Addr), PE (X.blk s H scope (compEnvC scope cl C X.env) fp) el' (tE B G WF false el)) :=
  ⟨fun s H C cl fp => by
      have := tg_ok (X := X.blk s H scope (compEnvC scope cl C X.env) fp) (N := N) (scope := scope) (rel := relS scope sc) ⟨by show X.N.Nodup; rw [c.hN]; exact c.nd, c.hN, (c.blk s H scope C cl fp).hsc, fun _ z => z, c.calm⟩ ht
      rw [show (X.blk s H scope (compEnvC scope cl C X.env) fp).K = B.K from c.hK] at this
      exact this,
    fun s H C cl fp => hcs _ (c.blk s H scope C cl fp), fun s H C cl fp => he _ (c.blk s H scope C cl fp) false⟩
theorem d_compF (c : CxOk T B G k N sc X) {el : E} {xs : List Nat} {it : It} {cs : Es} {el' tg iter : Expr} {ifs : List Expr} {scope : Scope} {pos : Pos} (hb : blkC N sc scope (ownOf N xs) = true) (ht : isTg N scope (relS scope sc) xs tg = true)
    (hok : okX iter = true) (hi : PI X tg iter (tIt B G W true it)) (hcs : ∀ X', CxOk T B G k N (relS scope sc) X' → PTs X' ifs (tCs B G WF cs)) (he : ∀ X', CxOk T B G k N (relS scope sc) X' → ∀ pk, PE X' el' (tE B G WF pk el)) :
    PE X (.ListComp el' [⟨tg, iter, ifs, 0⟩] scope pos) (tF B G W (.comp el xs it cs)) :=
  let ⟨p1, p2, p3⟩ := comp_parts (el := el) (cs := cs) c ht hcs he
  PE.imp (pe_lc c.calm (by rw [c.hN]; exact c.nd) hi (own := ownOf N xs) (blkOk_by (by rw [c.hN, c.hsc]; exact hb)) p1 p2 p3 (folded_ok hok)) fun σ H Q h => comp_read c h
/-- name = [..], the name a local -/
theorem s_comp (c : CxOk T B G k N sc X) {i : Nat} {y : Str} {py spos : Pos} {el : E} {xs : List Nat} {it : It} {cs : Es} {el' tg iter : Expr} {ifs : List Expr} {scope : Scope} {pos : Pos} (hb : blkC N sc scope (ownOf N xs) = true) (ht : isTg N scope (relS scope sc) xs tg = true)
    (hok : okX iter = true) (hi : PI X tg iter (tIt B G W true it)) (hcs : ∀ X', CxOk T B G k N (relS scope sc) X' → PTs X' ifs (tCs B G WF cs)) (he : ∀ X', CxOk T B G k N (relS scope sc) X' → ∀ pk, PE X' el' (tE B G WF pk el))
    (hy : N[i]? = some y) (hk : sc.kind = .function) (hyl : sc.names.lookup y = some .local) (hl : (py.line == pos.line) = true) (ha : (scope.names.any fun (n, k) => n == y && (k == .local || k == .cell)) = false) :
    PS X (.Assign [.Name y py] (.ListComp el' [⟨tg, iter, ifs, 0⟩] scope pos) spos) (tAsg (tF B G W (.comp el xs it cs)) (gName i)) :=
  let ⟨p1, p2, p3⟩ := comp_parts (el := el) (cs := cs) c ht hcs he
  PS.imp (ps_setLc c.calm (by rw [c.hN]; exact c.nd) (by rw [c.hN]; exact hy) (by rw [c.hsc]; exact hyl) (sw_true (by rw [c.hsc]; exact hk) (by rw [c.hsc]; exact hyl) hl ha) hi (own := ownOf N xs) (blkOk_by (by rw [c.hN, c.hsc]; exact hb)) p1 p2 p3 (folded_ok hok)) fun D σ H h => comp_read c h
end
end Mp

set_option Elab.async false
set_option linter.all false
set_option maxRecDepth 100000
set_option maxHeartbeats 2000000
/-! Mp, part 15b: methods of the register, more expressions. -/
namespace Mp
open PySem PySem.Spec L2
section
variable {T : Tab} {B : Bd} {G : Cfg} {k : Nat} {N : List Str} {sc : Scope} {X : Cx} {W : WX}
theorem few1 {a' : Expr} (h : okX a' = true) (cpos : Pos) : ((backTo cpos (starEach [a'] X.env)).all (fun x => !x.1) && (backToKw cpos (keywordEach [] X.env)).all (fun x => x.1.isSome)
      && decide ([a'].length + ([] : List Keyword).length + (if ([] : List Keyword).isEmpty then 0 else 1) < 30)) = true := by
  rw [starEach_ok h]; rfl
theorem regExt {sa : Addr} {Hs H : Hp} {l l' : List D} {vs' : List V} (w : Wd B sa Hs H (some l)) (h' : Rps B.K B.cn sa Hs l' vs') : Ext B sa Hs H (some l) Hs (upd H sa (.lst vs')) (some l') := by
  obtain ⟨h1, vs, h2, h3⟩ := w.reg l rfl
  refine ⟨⟨fun b u q => ?_, by rw [upd_same]; simp, fun xs e => ?_⟩, Same.refl _, fun b u c q => ?_, fun b u h q n => h, ⟨fun z => (by cases z), fun z => (by cases z)⟩⟩
  · have hb : b ≠ sa := ne_of_none q h1
    rw [upd_ne hb]; exact w.sub b u q
  · cases e
    exact ⟨h1, vs', upd_same, h'⟩
  · have hb : b ≠ sa := by
      rcases c with c | c
      · exact c
      · cases c
    rw [upd_ne hb]; exact q
theorem Rps.eraseIdx {K : PySem.W.Frag} {cn : Nat → Option (Addr × List Str)} {sa : Addr} {H : Hp} : ∀ {ds : List D} {vs : List V} (i : Nat), Rps K cn sa H ds vs → Rps K cn sa H (ds.eraseIdx i) (vs.eraseIdx i)
  | [], _, _, h => by cases h; simp [Rps]
  | _ :: _, _, 0, ⟨v, r, h1, h2, h3⟩ => by subst h1; exact h3
  | _ :: _, _, i + 1, ⟨v, r, h1, h2, h3⟩ => by subst h1; exact ⟨v, r.eraseIdx i, rfl, h2, Rps.eraseIdx i h3⟩
theorem d_rpop (c : CxOk T B G k N sc X) {o i : E} {x : Str} {px ap cp : Pos} {i' : Expr} (hl : (ap.endLine == cp.line) = true) (ok : okX i' = true) (ho : ∀ pk, PE X (.Name x px) (tE B G W pk o)) (hi : ∀ pk, PE X i' (tE B G W pk i)) :
    ∀ pk, PE X (.Call (.Attribute (.Name x px) "pop" ap) [i'] [] cp) (tE B G W pk (.rpop o i)) := fun pk =>
  PE.imp (pe_bm PySem.F.plainAttrs_list PySem.F.slot_list_pop PySem.F.type_list_pop mt_popAt (ho true) (pa_cons (hi true) pa_nil (starEach_ok ok)) rfl (few1 ok cp) hl (starEach_ok ok) rfl) fun σ H Q ⟨sa, Hs0, H0, rs0, Hs, rs, ρ, sr, p⟩ => by
    unfold evalE at p
    refine toE sr p fun d Hs1 H1 rs1 v e1 sr1 r1 p => ?_
    have reg : ∃ l, d = .st ∧ rs1 = some l ∧ Post B sa (fun cls dd H' => W cls dd σ H') Hs1 H1 rs1 (M.bind (evalE G true i ρ) (fun y => (match d, y with
      | .st, .int k => (fun rs => match rs with
        | some l => (match seqIndex? k l.length with
          | some j => (match l[j]? with | some v => if small62 k then .ok v (some (l.eraseIdx j)) else .stuck | none => .stuck)
          | none => .stuck)
        | none => .stuck)
      | _, _ => .stuck)) rs1) (fun d Hs' H' _ => ∀ v, RpB B sa pk Hs' H' d v → Q v H') := by
      unfold isReg M.bind at p
      cases d <;> first | exact (show False from p).elim | skip
      cases rs1 with
      | none => exact (show False from p).elim
      | some l => exact ⟨l, rfl, rfl, p⟩
    obtain ⟨l, rfl, rfl, p⟩ := reg
    obtain rfl := rpo_st r1.o
    obtain ⟨h1, vs, h2, h3⟩ := sr1.wd.reg l rfl
    refine ⟨.inl ⟨rfl, vs, SqL.of h2⟩, ?_⟩
    refine toE sr1 p fun y Hs2 H2 rs2 v2 e2 sr2 r2 p => ?_
    cases y <;> first | exact (show False from p).elim | skip
    rename_i j
    cases rs2 with
    | none => exact (show False from p).elim
    | some l2 =>
    have p : Post B sa (fun cls dd H' => W cls dd σ H') Hs2 H2 (some l2) ((match seqIndex? j l2.length with
          | some m => (match l2[m]? with | some v => if small62 j then .ok v (some (l2.eraseIdx m)) else .stuck | none => .stuck)
          | none => .stuck) : Res D) (fun d Hs' H' _ => ∀ v, RpB B sa pk Hs' H' d v → Q v H') := p
    cases hm : seqIndex? j l2.length with
    | none => rw [hm] at p; exact p.elim
    | some m =>
      rw [hm] at p
      dsimp only at p
      cases hy : l2[m]? with
      | none => rw [hy] at p; exact p.elim
      | some z =>
        rw [hy] at p
        dsimp only at p
        split at p
        · rename_i hs
          obtain ⟨s1, s2⟩ := small62_iff hs
          obtain rfl := rpo_int r2.o
          obtain ⟨h4, vs2, h5, h6⟩ := sr2.wd.reg l2 rfl
          obtain ⟨w, h7, h8⟩ := h6.get hy
          exact ⟨sa, vs2, j, m, w, rfl, rfl, h5, by omega, by omega, by rw [← h6.length]; exact hm, h7, p _ _ (regExt sr2.wd (h6.eraseIdx m)) _ (RpB.of h8)⟩
        · exact p.elim
end
end Mp

set_option Elab.async false
set_option linter.all false
set_option maxRecDepth 100000
set_option maxHeartbeats 2000000
/-! Mp, part 15c: comprehensions over the keys of an own dict, dict displays, reversed slices, isinstance. -/
namespace Mp
open PySem PySem.Spec L2
section
variable {B : Bd} {sa : Addr} {Hs0 H0 Hs H : Hp} {rs0 rs : Rg} {ρ : Env} {σ : L2.St}
theorem SR.hide (r : SR B sa Hs0 H0 rs0 Hs H rs ρ σ) {i : Nat} {s : SV} {a : Addr} {o : HO} (hi : ρ[i]? = some (some s)) (os : s.isOwn = true) (hv : σ[i]? = some (some (.ref a))) (h0 : H0 a = none) (hs : Hs a = none) : SR B sa Hs0 H0 rs0 Hs (upd H a o) rs (ρ.set i none) σ := by
  have na : a ≠ sa := fun z => r.sne (z ▸ h0)
  have hlt : i < ρ.length := (List.getElem?_eq_some_iff.mp hi).1
  have back : ∀ (j : Nat) (t : SV), (ρ.set i none)[j]? = some (some t) → ρ[j]? = some (some t) ∧ j ≠ i := fun j t e => by
    by_cases hj : i = j
    · subst hj; rw [List.getElem?_set_self hlt] at e; cases e
    · rw [List.getElem?_set_ne hj] at e; exact ⟨e, fun z => hj z.symm⟩
  refine ⟨r.sne, r.ext.own h0 hs na, by simp [r.len], fun j t e => ?_, fun j l t u v e1 e2 o1 o2 v1 v2 => r.apart j l t u v (back j t e1).1 (back l u e2).1 o1 o2 v1 v2⟩
  obtain ⟨e, hj⟩ := back j t e
  obtain ⟨w, h1, h2⟩ := r.slot j t e
  refine ⟨w, h1, ?_⟩
  have far : ∀ b, w = .ref b → t.isOwn = true → b ≠ a := fun b eb ot z => hj (r.apart j i t s (.ref a) e hi ot os (by rw [h1, eb, z]) hv)
  cases t with
  | d x => exact h2
  | ol xs =>
    obtain ⟨b, q1, q2, q3, vs, q4, q5⟩ := h2
    exact ⟨b, q1, q2, q3, vs, by rw [upd_ne (far b q1 rfl)]; exact q4, q5⟩
  | od t ks ds =>
    cases t with
    | false =>
      obtain ⟨b, q1, q2, q3, kk, vs, q4, q5⟩ := h2
      exact ⟨b, q1, q2, q3, kk, vs, by rw [upd_ne (far b q1 rfl)]; exact q4, q5⟩
    | true =>
      obtain ⟨b, q1, q2, q3, kk, vs, q4, q5⟩ := h2
      exact ⟨b, q1, q2, q3, kk, vs, by rw [upd_ne (far b q1 rfl)]; exact q4, q5⟩
/-- a tuple that stands in the heap may be shared at any time -/
theorem Wd.shareT (w : Wd B sa Hs H rs) {q : Addr} {vs : List V} (hq : H q = some (.tup vs)) : ∃ Hs', Ext B sa Hs H rs Hs' H rs ∧ Hs' q = some (.tup vs) := by
  cases e : Hs q with
  | some o => exact ⟨Hs, w.refl, by have := w.sub _ _ e; rw [hq] at this; rw [e]; exact this.symm⟩
  | none =>
    refine ⟨upd Hs q (.tup vs), ⟨⟨fun b u z => ?_, w.sne, fun xs z => ?_⟩, fun b u z => by rw [upd_ne (ne_of_none z e)]; exact z, fun b u _ z => z, fun b u z1 z2 n => ?_, Iff.rfl⟩, upd_same⟩
    · by_cases hb : b = q
      · subst hb; rw [upd_same] at z; cases z; exact hq
      · rw [upd_ne hb] at z; exact w.sub b u z
    · obtain ⟨h1, us, h2, h3⟩ := w.reg xs z
      have hn : sa ≠ q := fun z => by rw [z, hq] at h2; cases h2
      exact ⟨by rw [upd_ne hn]; exact h1, us, h2, Rps.mono (fun b u z => by rw [upd_ne (ne_of_none z e)]; exact z) _ _ h3⟩
    · have hb : b ≠ q := fun z => by rw [z, hq] at z2; cases z2; exact n _ rfl
      rw [upd_ne hb]; exact z1
theorem rps_kDV {K : PySem.W.Frag} {cn : Nat → Option (Addr × List Str)} : ∀ k : List Key, Rps K cn sa H (k.map kD) (k.map kV)
  | [] => rfl
  | .inl i :: r => ⟨.int i, _, rfl, rfl, rps_kDV r⟩
  | .inr s :: r => ⟨.str s, _, rfl, rfl, rps_kDV r⟩
theorem walk_keyT {d : Addr} {od : Obj} {kk : List (List Key)} {vs : List V} {ks : List D} {Hs1 H1 : Hp} {rs1 : Rg} (nd : d ≠ sa) (hd : H1 d = some (.frz od (.dT (kk.zip vs)))) (hl : kk.length = vs.length) (hk : ks = kk.map kDs) : WalkOk B sa (Keeps B sa true Hs1 H1 rs1) (Itkt d od (kk.zip vs)) ks := by
  have kp : ∀ {Hs' H' : Hp} {rs' : Rg}, Keeps B sa true Hs1 H1 rs1 Hs' H' rs' → H' d = some (.frz od (.dT (kk.zip vs))) := fun c => by
    unfold Keeps at c; rw [if_pos rfl] at c
    exact c.keep d _ (.inl nd) hd
  have len : ks.length = (kk.zip vs).length := by rw [hk, List.length_map, List.length_zip, ← hl, Nat.min_self]
  refine ⟨fun Hs' H' rs' i c w hi => ⟨kp c, by rw [← len]; exact hi⟩, fun Hs' H' rs' i x H'' c w hi y => ?_, fun Hs' H' rs' c w => ⟨kp c, Nat.le_of_eq len.symm⟩⟩
  obtain ⟨e, k, v, q, h1, rfl, h3⟩ := y
  obtain ⟨Hs2, x2, h4⟩ := w.shareT h3
  refine ⟨e, kDs k, Hs2, ?_, x2, q, _, rfl, h4, rps_kDV k⟩
  rw [hk, List.getElem?_map]
  have : kk[i]? = some k := by
    have hz := List.getElem?_zip_eq_some.mp h1
    exact hz.1
  rw [this]; rfl
theorem walk_keyK {d : Addr} {od : Obj} {kk : List Key} {vs : List V} {ks : List D} {Hs1 H1 : Hp} {rs1 : Rg} (nd : d ≠ sa) (hd : H1 d = some (.frz od (.dK (kk.zip vs)))) (hl : kk.length = vs.length) (hk : ks = kk.map kD) : WalkOk B sa (Keeps B sa true Hs1 H1 rs1) (Itk d od (kk.zip vs)) ks := by
  have kp : ∀ {Hs' H' : Hp} {rs' : Rg}, Keeps B sa true Hs1 H1 rs1 Hs' H' rs' → H' d = some (.frz od (.dK (kk.zip vs))) := fun c => by
    unfold Keeps at c; rw [if_pos rfl] at c
    exact c.keep d _ (.inl nd) hd
  have len : ks.length = (kk.zip vs).length := by rw [hk, List.length_map, List.length_zip, ← hl, Nat.min_self]
  refine ⟨fun Hs' H' rs' i c w hi => ⟨kp c, by rw [← len]; exact hi⟩, fun Hs' H' rs' i x H'' c w hi y => ?_, fun Hs' H' rs' c w => ⟨kp c, Nat.le_of_eq len.symm⟩⟩
  obtain ⟨e, k, v, h1, rfl⟩ := y
  refine ⟨e, kD k, Hs', ?_, w.refl, ?_⟩
  · rw [hk, List.getElem?_map]
    have : kk[i]? = some k := (List.getElem?_zip_eq_some.mp h1).1
    rw [this]; rfl
  · cases k <;> rfl
/-- from a dict under a lock back -/
theorem Ext.unlock {Hs' H' : Hp} {rs' : Rg} {d : Addr} {o u : HO} (nd : d ≠ sa) (w0 : Wd B sa Hs H rs) (hd : H d = some u) (hs : Hs d = none) (nt : ∀ xs, o ≠ .tup xs) (nt2 : ∀ xs, u ≠ .tup xs) (e : Ext B sa Hs (upd H d o) rs Hs' H' rs') : Ext B sa Hs H rs Hs' (upd H' d u) rs' ∧ H' d = some o := by
  have h1 : H' d = some o := e.keep d o (.inl nd) upd_same
  have h2 : Hs' d = none := e.new d o hs upd_same nt
  refine ⟨⟨⟨fun b v z => ?_, by rw [upd_ne (Ne.symm nd)]; exact e.wd.sne, fun xs z => ?_⟩, e.ss, fun b v c z => ?_, fun b v z1 z2 n => ?_, e.som⟩, h1⟩
  · have hb : b ≠ d := ne_of_none z h2
    rw [upd_ne hb]; exact e.wd.sub b v z
  · obtain ⟨q1, vs, q2, q3⟩ := e.wd.reg xs z
    exact ⟨q1, vs, by rw [upd_ne (Ne.symm nd)]; exact q2, q3⟩
  · by_cases hb : b = d
    · subst hb; rw [upd_same]; rw [hd] at z; exact z
    · rw [upd_ne hb]; exact e.keep b v c (by rw [upd_ne hb]; exact z)
  · by_cases hb : b = d
    · subst hb; exact h2
    · exact e.new b v z1 (by rw [upd_ne hb]; exact z2) n
end
section
variable {T : Tab} {B : Bd} {G : Cfg} {k : Nat} {N : List Str} {sc : Scope} {X : Cx} {W : WX}
theorem d_compK (c : CxOk T B G k N sc X) {el : E} {xs : List Nat} {i : Nat} {cs : Es} {el' tg : Expr} {x : Str} {px : Pos} {ifs : List Expr} {scope : Scope} {pos : Pos} (hx : N[i]? = some x) (vis : visB sc x = true) (hn : nameOk x = true) (hb : blkC N sc scope (ownOf N xs) = true) (ht : isTg N scope (relS scope sc) xs tg = true)
    (hcs : ∀ X', CxOk T B G k N (relS scope sc) X' → PTs X' ifs (tCs B G WF cs)) (he : ∀ X', CxOk T B G k N (relS scope sc) X' → ∀ pk, PE X' el' (tE B G WF pk el)) :
    PE X (.ListComp el' [⟨tg, .Name x px, ifs, 0⟩] scope pos) (tF B G W (.compK el xs i cs)) := by
  obtain ⟨p1, p2, p3⟩ := comp_parts (el := el) (cs := cs) c ht hcs he
  obtain ⟨n1, n2, n3⟩ := nameOk1 hn
  have hv : PE X (.Name x px) (tVar i) := pe_var (by rw [c.hN]; exact hx) (by rw [c.hsc]; exact vis_of vis) n1 n2
  refine PE.imp (pe_lock (pe_lc c.calm (by rw [c.hN]; exact c.nd) (pi_keys hv) (own := ownOf N xs) (blkOk_by (by rw [c.hN, c.hsc]; exact hb)) p1 p2 p3 (folded_ok rfl))) fun σ H Q ⟨sa, Hs0, H0, rs0, Hs, rs, ρ, sr, p⟩ => ?_
  have p : Post B sa (fun cls dd H' => W cls dd σ H') Hs H rs ((match ρ[i]? with
    | some (some (.od _ ks _)) => if ks.length ≤ lim then
        M.bind (M.nox (loopC (compF G el xs cs (ρ.set i none)) ks)) fun ys => M.ok (D.lst ys) else M.stuck
    | _ => M.stuck) rs) (fun d Hs' H' _ => ∀ v, RpF B sa H Hs' H' d v → Q v H') := p
  cases hr : ρ[i]? with
  | none => rw [hr] at p; exact (show False from p).elim
  | some so =>
  rw [hr] at p
  cases so with
  | none => exact (show False from p).elim
  | some s =>
  cases s with
  | d x => exact (show False from p).elim
  | ol ys => exact (show False from p).elim
  | od t ks ds =>
  dsimp only at p
  split at p
  case isFalse => exact (show False from p).elim
  case isTrue hl =>
  obtain ⟨v, hv', a, rfl, h0, ho⟩ := sr.slot i _ hr
  have na : a ≠ sa := fun z => sr.sne (z ▸ h0)
  have main : ∀ (u : HO) (od : Obj) (J : L2.It), H a = some u → Hs a = none → (∀ xs, u ≠ .tup xs) → WalkOk B sa (Keeps B sa true Hs (upd H a (.frz od u)) rs) J ks →
      ∀ L, (upd H a (.frz od u)) L = none → ∃ W : Nat → Nat → Hp → Prop, (∃ m, W 0 m (upd (upd H a (.frz od u)) L (.lst []))) ∧ ∀ i m H2, W i m H2 →
  (J.stop i H2 ∧ (H2 a = some (.frz od u) ∧ Q (.ref L) (upd H2 a u))) ∨ (J.go i H2 ∧ ∃ Nx : Hp → Prop, (∀ H', Nx H' → ∃ m', m' < m ∧ W (i + 1) m' H') ∧ ∀ x H', J.yld i H2 x H' → gTg B.K xs x (L2.wipe σ xs) H' fun σ2 H2 => L2.wipe σ2 xs = L2.wipe σ xs ∧ tCs B G WF cs σ2 H2 fun b H3 =>
    if b = true then tE B G WF false el σ2 H3 fun y H4 => ∃ acc, H4 L = some (.lst acc) ∧ acc.length < sizeLine ∧ Nx (upd H4 L (.lst (acc ++ [y]))) else Nx H3) := by
    intro u od J hu hs nt hJ L hL
    have sk := sr.hide (o := .frz od u) hr rfl hv' h0 hs
    refine comp_core (W0 := fun _ _ _ => True) (Q := fun v H' => H' a = some (.frz od u) ∧ Q v (upd H' a u)) sk hl hJ ?_ L hL
    cases er : (M.bind (M.nox (loopC (compF G el xs cs (ρ.set i none)) ks)) (fun ys => M.ok (D.lst ys))) rs with
    | ok d rs' =>
      rw [er] at p
      intro Hs' H' e v r
      obtain ⟨e2, h1⟩ := Ext.unlock na sr.wd hu hs (fun _ z => by cases z) nt e
      refine ⟨h1, p _ _ e2 v ?_⟩
      cases d <;> first
        | exact r
        | (obtain ⟨b, q1, q2, q3⟩ := r
           have hb : b ≠ a := fun z => by rw [z, upd_same] at q2; cases q2
           refine ⟨b, q1, by rw [upd_ne hb] at q2; exact q2, ?_⟩
           obtain ⟨q4, vs, q5, q6⟩ := q3
           exact ⟨q4, vs, by rw [upd_ne hb]; exact q5, q6⟩)
        | (rename_i t' _ _
           obtain ⟨b, q1, q2, q3⟩ := r
           have hb : b ≠ a := fun z => by rw [z, upd_same] at q2; cases q2
           refine ⟨b, q1, by rw [upd_ne hb] at q2; exact q2, ?_⟩
           cases t' with
           | false =>
             obtain ⟨q4, kk, vs, q5, q6⟩ := q3
             exact ⟨q4, kk, vs, by rw [upd_ne hb]; exact q5, q6⟩
           | true =>
             obtain ⟨q4, kk, vs, q5, q6⟩ := q3
             exact ⟨q4, kk, vs, by rw [upd_ne hb]; exact q5, q6⟩)
    | exc c d rs' => exact fun _ _ _ _ _ _ => True.intro
    | stuck => rw [er] at p; exact (show False from p).elim
  show tLockE _ σ H Q
  cases t with
  | true =>
    obtain ⟨hs, kk, vs, ha, hlk, hk, rv⟩ := ho
    refine ⟨a, _, ha, True.intro, fun od => ?_⟩
    rw [own_map]
    refine ⟨.ref a, hv', a, od, rfl, .inr ⟨_, upd_same, ?_⟩⟩
    exact main _ od _ ha hs (fun _ z => by cases z) (walk_keyT na upd_same hlk hk)
  | false =>
    obtain ⟨hs, kk, vs, ha, hlk, hk, rv⟩ := ho
    refine ⟨a, _, ha, True.intro, fun od => ?_⟩
    rw [own_map]
    refine ⟨.ref a, hv', a, od, rfl, .inl ⟨_, upd_same, ?_⟩⟩
    exact main _ od _ ha hs (fun _ z => by cases z) (walk_keyK na upd_same hlk hk)
end
end Mp

set_option Elab.async false
set_option linter.all false
set_option maxRecDepth 100000
set_option maxHeartbeats 2000000
/-! Mp, part 15d: dict displays, isinstance, reversed slices, remove. -/
namespace Mp
open PySem PySem.Spec L2
/-! ### {k: v}, the key a tuple -/
def tDisp1 (tk tv : TE) : TE := fun σ H Q => ∀ p, H p = none → tk σ (upd H p (.dT [])) fun x H1 => tv σ H1 fun y H2 => H2 p = some (.dT []) ∧ ∃ (b : Addr) (ks : List Key), x = .ref b ∧ H2 b = some (.tup (ks.map kV)) ∧ Q (.ref p) (upd H2 p (.dT [(ks, y)]))
theorem pe_disp1T {X : Cx} {k v : Expr} {tk tv : TE} {pos : Pos} (hu : X.A.units + 64 < cLine) (hk : PE X k tk) (hv : PE X v tv) : PE X (.Dict [some k] [v] pos) (tDisp1 tk tv) := by
  refine ⟨fun pins s σ H Q I q => ?_⟩
  have hn := I.hok.fresh (Nat.le_refl s.heap.objs.size)
  have I1 := I.laid (a := s.heap.objs.size) (o := .dT []) (h' := s.heap.push { cls := .type "dict", data := .dict #[] }) (t' := s.toks) (fun _ _ q => Heap.get?_push_of_some _ q) (Nat.le_refl _) (dt_empty s.heap I.big)
  have hz : (evalEachOpt [some k] X.env).zip ((evalEach [v] X.env).map fun v => do let x ← v; standAt pos; pure x) = (pairTrees [some k] [v] X.env pos).map fun p => (some p.1, p.2) := zip_pairTrees [some k] [v] X.env pos rfl rfl
  rw [arm_eval_Dict, hz, dictDisplay_pairs (pairTrees [some k] [v] X.env pos) (by simp [pairTrees]) (by simp [pairTrees])]
  refine wpAny_bind (wpAny_standAt (wpAny_bind ?_))
  unfold subDict
  refine wpAny_bind (wpAny_alloc (wpAny_bind (wpAny_holding ?_)))
  rw [if_pos (show (pairTrees [some k] [v] X.env pos).length ≤ 15 by simp [pairTrees])]
  refine wpAny_bind (pairTrees_cons_walk (thn (hk.run pins _ σ _ _ I1 (q _ hn)) fun u s1 ⟨x, H1, I2, rx, q1⟩ => thn (hv.run pins s1 σ H1 _ I2 q1) fun w2 s2 ⟨y, H2, I3, ry, hp, b, ks, ex, hb, q2⟩ => pairTrees_nil_walk ?_))
  subst ex
  obtain rfl : u = Value.ref b := rx
  refine wpAny_holding ?_
  rw [List.forIn_cons]
  obtain ⟨z, hd, xs, rel, dd⟩ := dt_of I3.hok hp
  cases rel
  refine wpAny_bind (wpAny_bind (wpAny_bind (wpAny_dictSet_heap (knd := tupleKind (mixKind X.prog X.w)) (show X.A.units < cLine by omega) (key_of I3.hok hb) dd (fun h' dd' hs => wpAny_pure ?_) (by show 0 ≤ sizeLine; omega))))
  dsimp only
  rw [List.forIn_nil]
  refine wpAny_pure (wpAny_pure (wpAny_pure (wpAny_pure ?_)))
  refine ⟨.ref s.heap.objs.size, _, ?_, rfl, q2⟩
  obtain ⟨q, es, ep, hq, h2, h3, h4, h6, h5⟩ := dd'
  refine d_write I3 (by rw [hp]; exact True.intro) hs ⟨q, hq⟩ ⟨by show 1 ≤ sizeLine; rw [sizeLine_eq]; omega, hd, _, (KT.put (H := H2) (kvs := []) (xs := []) .nil ks hb ry).keeps fun c ys ec => ?_, q, es, ep, hq, h2, h3, h4, h5⟩
  rw [upd_ne (ne_of ec hp (fun z => nomatch z))]
  exact ec

section
variable {T : Tab} {B : Bd} {G : Cfg} {k : Nat} {N : List Str} {sc : Scope} {X : Cx} {W : WX}
theorem d_dnewF (t : Bool) {pos : Pos} : PE X (.Dict [] [] pos) (tF B G W (.dnew t)) := by
  cases t with
  | true =>
    exact PE.imp pe_dnewT fun σ H Q ⟨sa, Hs0, H0, rs0, Hs, rs, ρ, sr, p⟩ => fun q hq => by
      have hs : Hs q = none := by
        cases z : Hs q with
        | none => rfl
        | some u => rw [sr.wd.sub q u z] at hq; cases hq
      exact p Hs (upd H q (.dT [])) (sr.wd.allocO hq) _ ⟨q, rfl, hq, hs, [], [], upd_same, rfl, rfl, rfl⟩
  | false =>
    exact PE.imp pe_dnewK fun σ H Q ⟨sa, Hs0, H0, rs0, Hs, rs, ρ, sr, p⟩ => fun q hq => by
      have hs : Hs q = none := by
        cases z : Hs q with
        | none => rfl
        | some u => rw [sr.wd.sub q u z] at hq; cases hq
      exact p Hs (upd H q (.dK [])) (sr.wd.allocO hq) _ ⟨q, rfl, hq, hs, [], [], upd_same, rfl, rfl, rfl⟩
theorem Ext.upd2 {sa : Addr} {Hs H Hs' H' : Hp} {rs rs' : Rg} {p : Addr} {o o' : HO} (n : p ≠ sa) (hp : H p = none) (w0 : Wd B sa Hs H rs) (hs : Hs p = none) (nt : ∀ xs, o ≠ .tup xs) (e : Ext B sa Hs (upd H p o) rs Hs' H' rs') : Ext B sa Hs H rs Hs' (upd H' p o') rs' ∧ Hs' p = none ∧ H' p = some o := by
  have h1 : H' p = some o := e.keep p o (.inl n) upd_same
  have h2 : Hs' p = none := e.new p o hs upd_same nt
  have e0 := (w0.allocO (o := o) hp).trans e
  exact ⟨e0.own hp h2 n, h2, h1⟩
theorem d_ddispF (c : CxOk T B G k N sc X) {kx vx : E} {k' v' : Expr} {pos : Pos} (hk : ∀ pk, PE X k' (tE B G W pk kx)) (hv : ∀ pk, PE X v' (tE B G W pk vx)) : PE X (.Dict [some k'] [v'] pos) (tF B G W (.ddisp kx vx)) :=
  PE.imp (pe_disp1T c.units (hk false) (hv false)) fun σ H Q ⟨sa, Hs0, H0, rs0, Hs, rs, ρ, sr, p⟩ => fun q hq => by
    have hs : Hs q = none := by
      cases z : Hs q with
      | none => rfl
      | some u => rw [sr.wd.sub q u z] at hq; cases hq
    have nq : q ≠ sa := fun z => sr.wd.sne (z ▸ hq)
    have e0 := sr.wd.allocO (o := .dT []) hq
    have sr0 := sr.mono e0
    unfold evalE at p
    unfold M.bind at p
    refine ⟨sa, Hs0, H0, rs0, Hs, rs, ρ, sr0, ?_⟩
    cases ex : evalE G false kx ρ rs with
    | stuck => rw [ex] at p; exact (show False from p).elim
    | exc c d rs' => rw [ex] at p; exact fun Hs' H' cls dd e x => p Hs' H' cls dd (e0.trans e) x
    | ok x rs1 =>
      rw [ex] at p
      intro Hs1 H1 e1 v r1
      refine ⟨sa, Hs0, H0, rs0, Hs1, rs1, ρ, sr0.mono e1, ?_⟩
      cases ey : evalE G false vx ρ rs1 with
      | stuck => dsimp only at p; rw [ey] at p; exact (show False from p).elim
      | exc c d rs' => dsimp only at p; rw [ey] at p; exact fun Hs' H' cls dd e x => p Hs' H' cls dd (e0.trans (e1.trans e)) x
      | ok y rs2 =>
        intro Hs2 H2 e2 w r2
        dsimp only at p
        rw [ey] at p
        dsimp only at p
        split at p
        case isFalse => exact (show False from p).elim
        case isTrue hkey =>
        obtain ⟨ks, rfl⟩ := keyT hkey
        unfold RpB at r1 r2
        rw [if_neg (by simp)] at r1 r2
        obtain ⟨b, vs, rfl, h1, h2⟩ := r1
        obtain rfl := rps_keys h2
        obtain ⟨e3, q2, q3⟩ := Ext.upd2 (o' := .dT [(ks, w)]) nq hq sr.wd hs (fun _ z => by cases z) (e1.trans e2)
        exact ⟨q3, b, ks, rfl, e2.wd.sub _ _ (e2.ss _ _ h1), p _ _ e3 _ ⟨q, rfl, hq, q2, [ks], [w], by rw [upd_same]; rfl, rfl, rfl, Rps.one r2⟩⟩
/-! ### list.remove -/
def rRemD (B : Bd) : V → List V → Hp → VK → Prop := fun x xs H Q => ∃ (l : Addr) (zs : List V) (y : V) (d : PyData) (ds : List PyData) (j : Nat), x = .ref l ∧ xs = [y] ∧ H l = some (.lst zs) ∧ DpAll B.K H zs ds ∧ Dp B.K H y d ∧
  PyData.plainAll ds = true ∧ d.plain = true ∧ PyData.depthAll ds ≤ 60 ∧ d.depth ≤ 60 ∧ (ds.findIdx? fun z => PyData.eqv z d) = some j ∧ Q .non (upd H l (.lst (zs.eraseIdx j)))
theorem Vals.eraseIdx' : ∀ {zs : List V} {us : List Value} (j : Nat), Vals zs us → Vals (zs.eraseIdx j) (us.eraseIdx j)
  | _, _, j, r => r.eraseIdx j
theorem mt_removeD {X : Cx} (hK : X.K = B.K) (hu : X.A.units + 64 < cLine) : MtM X "list.remove" (rRemD B) := by
  intro pins s σ H x xs v us Q I rx rxs h
  obtain ⟨l, zs, y, d, ds, j, rfl, rfl, hH, ha, hy, pl, pd, dl, dd, hp, q⟩ := h
  cases rx
  obtain ⟨uy, rfl, ry⟩ := rxs.one
  obtain ⟨bs, r1⟩ := Dp.reads I d y uy (hK ▸ hy) ry
  obtain ⟨zz, its, n, rv, hlen, e⟩ := I.lstM hH
  obtain ⟨as, h4⟩ := Dp.readsAll I ds _ its (hK ▸ ha) rv
  refine SeqAt.remove_list_data (vs := its.toArray) ⟨_, e, rfl, n, rfl⟩ (show ReadsAll s.heap its.toArray.toList ds as from h4) r1 pl pd (by have := Nat.min_le_left (PyData.depthAll ds) d.depth; omega) hp (by rw [List.size_toArray]; omega) ?_
  refine ⟨.non, _, I.lset (its' := its.eraseIdx j) (t' := s.toks) hH e ?_ (rv.eraseIdx j) ?_, rfl, q⟩
  · rw [List.eraseIdxIfInBounds_toArray]
  · have := len_erase zs j
    omega
/-! ### isinstance -/
def tyN : List Str := ["int", "bool", "tuple", "list", "str"]
theorem kit_all : ∀ a ∈ ["NoneType", "bool", "int", "str", "tuple", "list", "dict"], ∀ b ∈ ["int", "bool", "tuple", "list", "str"], kitB a b = some (kitN a b) := by decide +kernel
theorem kit_ok {K : PySem.W.Frag} {d : D} {t : Ty} {a b : String} (h1 : tyNm d = some a) (h2 : tyS t = some b) : PySem.W.kitOne K (.type a) (.type b) = some (kitN a b) := by
  refine kit_ty (kit_all a ?_ b ?_)
  · cases d <;> simp [tyNm] at h1 <;> subst h1 <;> simp
  · cases t <;> simp [tyS] at h2 <;> subst h2 <;> simp
theorem tyx_of {sa : Addr} {Hs H : Hp} {rs : Rg} {d : D} {v : V} {a : String} (w : Wd B sa Hs H rs) (h : RpO B sa Hs H d v) (hn : tyNm d = some a) : TyX B.K H v (.type a) := by
  have sq : ∀ {p : Addr} {vs : List V}, SqL B.K H p vs → TyX B.K H (.ref p) (.type "list") := fun {p vs} q => by
    rcases q with (q | ⟨o, q⟩) | ⟨o, its, n, q1, q2, _⟩
    · exact .base (.lst q)
    · exact .base (.frz q)
    · exact .kList q1 q2
  have st : ∀ {p : Addr} {vs : List V}, SqT B.K H p vs → TyX B.K H (.ref p) (.type "tuple") := fun {p vs} q => by
    rcases q with (q | ⟨o, q⟩) | ⟨o, its, n, q1, q2, _⟩
    · exact .base (.tup q)
    · exact .fTuple q
    · exact .kTuple q1 q2
  rcases h with h | ⟨s, p, h1, h2, rfl, h4, h5⟩
  · cases d <;> simp [tyNm] at hn <;> subst hn
    · cases h; exact .base .non
    · cases h; exact .base (.bl _)
    · cases h; exact .base (.int _)
    · cases h; exact .base (.str _)
    · obtain ⟨p, vs, rfl, q, _⟩ := h; exact .base (.tup (w.sub _ _ q))
    · obtain ⟨p, vs, rfl, q, _⟩ := h; exact .base (.lst (w.sub _ _ q))
    · obtain ⟨p, vs, rfl, q, _⟩ := h; exact sq (w.sub.seq q)
    · obtain ⟨p, vs, rfl, q, _⟩ := h; exact st (sqT_mono w.sub q)
    · rename_i t ks ds
      cases t with
      | false => obtain ⟨p, kk, vs, rfl, q, _⟩ := h; exact .base (.dK (w.sub _ _ q))
      | true => obtain ⟨p, kk, vs, rfl, q, _⟩ := h; exact .base (.dT (w.sub _ _ q))
  · cases s with
    | d x => cases h1
    | ol xs =>
      subst h2
      simp [svD, tyNm] at hn; subst hn
      obtain ⟨_, vs, q, _⟩ := h5; exact .base (.lst q)
    | od t ks ds =>
      subst h2
      simp [svD, tyNm] at hn; subst hn
      cases t with
      | false => obtain ⟨_, kk, vs, q, _⟩ := h5; exact .base (.dK q)
      | true => obtain ⟨_, kk, vs, q, _⟩ := h5; exact .base (.dT q)
theorem tyIs_some {d : D} {t : Ty} {b : Bool} (h : tyIs d t = some b) : ∃ a c, tyNm d = some a ∧ tyS t = some c ∧ b = kitN a c := by
  unfold tyIs at h
  cases h1 : tyNm d with
  | none => rw [h1] at h; cases h
  | some a =>
    cases h2 : tyS t with
    | none => rw [h1, h2] at h; cases h
    | some c => rw [h1, h2] at h; cases h; exact ⟨a, c, rfl, rfl, rfl⟩
theorem tyAny_cons {d : D} {t : Ty} {r : List Ty} {b : Bool} (h : tyAny d (t :: r) = some b) : ∃ x y, tyIs d t = some x ∧ tyAny d r = some y ∧ b = (x || y) := by
  unfold tyAny at h
  cases h1 : tyIs d t with
  | none => rw [h1] at h; cases h
  | some x =>
    cases h2 : tyAny d r with
    | none => rw [h1, h2] at h; cases h
    | some y => rw [h1, h2] at h; cases h; exact ⟨x, y, rfl, rfl, rfl⟩
theorem bl_toE {sa : Addr} {Hs0 H0 Hs H : Hp} {rs0 rs : Rg} {ρ : Env} {σ : L2.St} {pk : Bool} {a : E} {ts : List Ty} {Q : VK} {R : VK} (sr : SR B sa Hs0 H0 rs0 Hs H rs ρ σ) (p : Post B sa (fun cls dd H' => W cls dd σ H') Hs H rs (evalE G pk (.isi a ts) ρ rs) fun d Hs' H' _ => ∀ v, RpB B sa pk Hs' H' d v → Q v H')
    (k : ∀ d Hs1 H1 rs1 v z, Wd B sa Hs1 H1 rs1 → RpO B sa Hs1 H1 d v → tyAny d ts = some z → (∀ Hs' H', Ext B sa Hs1 H1 rs1 Hs' H' rs1 → Q (.bl z) H') → R v H1) : tE B G W true a σ H R := by
  unfold evalE at p
  refine toE sr p fun d Hs1 H1 rs1 v e1 sr1 r1 p => ?_
  cases hz : tyAny d ts with
  | none => rw [hz] at p; exact (show False from p).elim
  | some z =>
    rw [hz] at p
    exact k d Hs1 H1 rs1 v z sr1.wd r1.o hz fun Hs' H' e => p Hs' H' e _ (RpB.of rfl)
theorem d_isi1 (c : CxOk T B G k N sc X) {a : E} {t : Ty} {a' : Expr} {y : Str} {p py pos : Pos} (h1 : glB sc "isinstance" = true) (h2 : tySt t = some y) (h3 : glB sc y = true) (ok : okX a' = true) (ha : ∀ pk, PE X a' (tE B G W pk a)) :
    ∀ pk, PE X (.Call (.Name "isinstance" p) [a', .Name y py] [] pos) (tE B G W pk (.isi a [t])) := fun pk => by
  obtain ⟨n, hn, hb, hm, e2, e3⟩ : ∃ n : String, tyS t = some n ∧ bootBuiltins y = some (.type n) ∧ X.mg y = none ∧ y ≠ "__name__" ∧ (y == ("__debug__" : Str)) = false := by
    cases t <;> simp [tySt] at h2 <;> subst h2
    · exact ⟨_, rfl, by decide +kernel, c.blt _ (by decide), by decide, by decide⟩
    · exact ⟨_, rfl, by decide +kernel, c.blt _ (by decide), by decide, by decide⟩
    · exact ⟨_, rfl, by decide +kernel, c.blt _ (by decide), by decide, by decide⟩
    · exact ⟨_, rfl, by decide +kernel, c.blt _ (by decide), by decide, by decide⟩
    · exact ⟨_, rfl, by decide +kernel, c.blt _ (by decide), by decide, by decide⟩
  refine PE.imp (pe_callB call_isi (c.gl h1) (c.blt _ (by decide)) (by decide +kernel) (pa_cons (ha true) (pa_cons (pe_bltn (v := .ty n) (c.gl h3) hm hb rfl e2 e3) pa_nil) (starEach_ok ok)) (by decide) (by decide) (starEach_ok ok) rfl) fun σ H Q ⟨sa, Hs0, H0, rs0, Hs, rs, ρ, sr, p⟩ => ?_
  refine bl_toE sr p fun d Hs1 H1 rs1 v z w r hz q => ?_
  obtain ⟨x, y', hx, hy, rfl⟩ := tyAny_cons hz
  cases hy
  obtain ⟨a1, c1, q1, q2, rfl⟩ := tyIs_some hx
  rw [hn] at q2; cases q2
  rw [c.hK, Bool.or_false] at *
  exact ⟨v, .ty n, .type a1, .type n, _, rfl, .ty n, tyx_of w r q1, kit_ok q1 hn, by have := q Hs1 H1 w.refl; simpa using this⟩
theorem ty_name (c : CxOk T B G k N sc X) {t : Ty} {y : Str} (h2 : tySt t = some y) : ∃ n : String, tyS t = some n ∧ bootBuiltins y = some (.type n) ∧ X.mg y = none ∧ y ≠ "__name__" ∧ (y == ("__debug__" : Str)) = false := by
  cases t <;> simp [tySt] at h2 <;> subst h2
  · exact ⟨_, rfl, by decide +kernel, c.blt _ (by decide), by decide, by decide⟩
  · exact ⟨_, rfl, by decide +kernel, c.blt _ (by decide), by decide, by decide⟩
  · exact ⟨_, rfl, by decide +kernel, c.blt _ (by decide), by decide, by decide⟩
  · exact ⟨_, rfl, by decide +kernel, c.blt _ (by decide), by decide, by decide⟩
  · exact ⟨_, rfl, by decide +kernel, c.blt _ (by decide), by decide, by decide⟩
theorem d_isi2 (c : CxOk T B G k N sc X) {a : E} {t t2 : Ty} {a' : Expr} {y y2 : Str} {tx : Nat} {p py py2 pt pos : Pos} (h1 : glB sc "isinstance" = true) (h2 : tySt t = some y) (h3 : glB sc y = true) (h4 : tySt t2 = some y2) (h5 : glB sc y2 = true) (ok : okX a' = true) (ha : ∀ pk, PE X a' (tE B G W pk a)) :
    ∀ pk, PE X (.Call (.Name "isinstance" p) [a', .Tuple [.Name y py, .Name y2 py2] tx pt] [] pos) (tE B G W pk (.isi a [t, t2])) := fun pk => by
  obtain ⟨n, hn, hb, hm, e2, e3⟩ := ty_name c h2
  obtain ⟨m, hn', hb', hm', e2', e3'⟩ := ty_name c h4
  have tp : PE X (.Tuple [.Name y py, .Name y2 py2] tx pt) _ := pe_tup (pa_cons (pe_bltn (v := .ty n) (c.gl h3) hm hb rfl e2 e3) (pa_cons (pe_bltn (v := .ty m) (c.gl h5) hm' hb' rfl e2' e3') pa_nil))
  refine PE.imp (pe_callB call_isiT (c.gl h1) (c.blt _ (by decide)) (by decide +kernel) (pa_cons (ha true) (pa_cons tp pa_nil) (starEach_ok ok)) (by decide) (by decide) (starEach_ok ok) rfl) fun σ H Q ⟨sa, Hs0, H0, rs0, Hs, rs, ρ, sr, p⟩ => ?_
  refine bl_toE sr p fun d Hs1 H1 rs1 v z w r hz q => ?_
  obtain ⟨x, y', hx, hy, rfl⟩ := tyAny_cons hz
  obtain ⟨x2, y2', hx2, hy2, rfl⟩ := tyAny_cons hy
  cases hy2
  obtain ⟨a1, c1, q1, q2, rfl⟩ := tyIs_some hx
  obtain ⟨a2, c2, q3, q4, rfl⟩ := tyIs_some hx2
  rw [hn] at q2; cases q2
  rw [hn'] at q4; cases q4
  rw [q1] at q3; cases q3
  refine ⟨by show 2 ≤ sizeLine; rw [sizeLine_eq]; omega, fun b hb2 => ?_⟩
  have e := w.alloc (o := .tup [.ty n, .ty m]) hb2
  have hk := kit_ok (K := X.K) (d := d) (t := t) q1 hn
  have hk2 := kit_ok (K := X.K) (d := d) (t := t2) q1 hn'
  have hka : PySem.W.kitAny X.K (.type a1) [.type n, .type m] = some (kitN a1 n || (kitN a1 m || false)) := kitAny_cons hk (fun hz => by
    rw [hz, Bool.false_or]
    exact kitAny_cons hk2 (fun hz => by rw [hz]; exact kitAny_nil) fun z => by rw [z]; rfl) (fun z => by rw [z]; rfl)
  refine ⟨v, b, [.ty n, .ty m], .type a1, [.type n, .type m], _, rfl, upd_same, .cons (.ty n) (.cons (.ty m) .nil), ?_, hka, ?_⟩
  · rw [c.hK]; exact tyx_of e.wd (r.mono e) q1
  · exact q _ _ e
end
end Mp

set_option Elab.async false
set_option linter.all false
set_option maxRecDepth 100000
set_option maxHeartbeats 2000000
/-! Mp, part 15e: xs[::-1] of a list or a tuple. -/
namespace Mp
open PySem PySem.Spec PyProof.Rows L2
theorem rev_pick (xs : Array Value) : ((List.range xs.size).filterMap fun (k : Nat) => xs[(((xs.size : Int) - 1) + (k : Int) * (-1)).toNat]?).toArray = xs.toList.reverse.toArray := by
  congr 1
  have e : (List.range xs.size).filterMap (fun (k : Nat) => xs[(((xs.size : Int) - 1) + (k : Int) * (-1)).toNat]?) = (List.range xs.size).filterMap (fun (k : Nat) => xs.toList.reverse[k]?) := by
    have gen : ∀ (l : List Nat) (f g : Nat → Option Value), (∀ k ∈ l, f k = g k) → l.filterMap f = l.filterMap g := by
      intro l f g
      induction l with
      | nil => intro _; rfl
      | cons a l ih =>
        intro h
        rw [List.filterMap_cons, List.filterMap_cons, h a (by simp), ih fun k hk => h k (by simp [hk])]
    refine gen _ _ _ fun k hk => ?_
    have hk' := List.mem_range.mp hk
    have e2 : (((xs.size : Int) - 1) + (k : Int) * (-1)).toNat = xs.size - 1 - k := by omega
    rw [e2, List.getElem?_reverse (by simpa using hk')]
    simp
  rw [e]
  apply List.ext_getElem?
  intro i
  have h2 : (List.range xs.size).filterMap (fun (k : Nat) => xs.toList.reverse[k]?) = xs.toList.reverse := by
    have : ∀ (l : List Value), (List.range l.length).filterMap (fun (k : Nat) => l[k]?) = l := by
      intro l
      induction l with
      | nil => rfl
      | cons a l ih =>
        rw [List.length_cons, List.range_succ_eq_map, List.filterMap_cons]
        simp only [List.getElem?_cons_zero, List.filterMap_map]
        show a :: List.filterMap (fun k => (a :: l)[k + 1]?) _ = _
        simp only [List.getElem?_cons_succ]
        rw [ih]
    have h3 := this xs.toList.reverse
    rwa [List.length_reverse, Array.length_toList] at h3
  rw [h2]
section
variable {prog : Program} {w : World} {A : Around} {E : Value → Shared → Prop} {s : Shared}
theorem sliceApplied_rev {sl : Addr} {vl vu vs : Value} {n : Nat} {Q : Int × Int × Nat → Shared → Prop} (hs : s.heap.IsSliceOf sl vl vu vs) (pl : IsPart vl none) (pu : IsPart vu none) (ps : IsPart vs (some (-1)))
    (h : Q ((n : Int) - 1, -1, n) s) : wpAny (model prog w) A (Builtin.Slice.sliceApplied (.ref sl) (pure (n : Int))) Q E s := by
  obtain ⟨os, hos, hcs, hds⟩ := id hs
  unfold Builtin.Slice.sliceApplied Builtin.Slice.sliceFields
  refine wpAny_bind (wpAny_bind (wpAny_field hos hds (x := vl) rfl (wpAny_bind (wpAny_field hos hds (x := vu) rfl (wpAny_bind (wpAny_field hos hds (x := vs) rfl (wpAny_pure ?_)))))))
  refine wpAny_bind (HT.slicePart_ ps ?_)
  show wpAny _ _ (if ((-1 : Int) == 0) = true then _ else _) _ _ s
  rw [if_neg (by decide)]
  refine wpAny_bind (HT.slicePart_ pl (wpAny_bind (HT.slicePart_ pu (wpAny_bind (wpAny_pure ?_)))))
  show wpAny _ _ (pure ((n : Int) - 1, (-1 : Int), Builtin.Slice.slicePlaces ((n : Int) - 1) (-1) (-1))) _ _ s
  have e : Builtin.Slice.slicePlaces ((n : Int) - 1) (-1) (-1) = n := by
    unfold Builtin.Slice.slicePlaces
    rw [if_neg (by decide)]
    split
    · show (((n : Int) - 1 - (-1) - 1) / 1 + 1).toNat = n
      rw [Int.ediv_one]; omega
    · show (0 : Int).toNat = n
      have : n = 0 := by omega
      subst this; rfl
  rw [e]
  exact wpAny_pure h
theorem getItem_tuple_rev {t sl : Addr} {items : Array Value} {vl vu vs : Value} {Q : Value → Shared → Prop} (ht : IsTup s.heap t items) (hs : s.heap.IsSliceOf sl vl vu vs) (pl : IsPart vl none) (pu : IsPart vu none) (ps : IsPart vs (some (-1)))
    (h : Q (.ref s.heap.objs.size) { s with heap := s.heap.push { cls := .type "tuple", data := .seq (items.toList.reverse).toArray } })
    (hsz : items.size ≤ sizeLine) : wpAny (model prog w) A (getItem (.ref t) (.ref sl)) Q E s := by
  have htake : sizeOk (.seq (items.toList.reverse).toArray) := by
    show (items.toList.reverse).toArray.size ≤ sizeLine
    rw [List.size_toArray, List.length_reverse, Array.length_toList]
    exact hsz
  obtain ⟨os, hos, hcs, hds⟩ := id hs
  have hTs : s.TypeIs (.ref sl) "slice" := ⟨os, hos, hcs⟩
  unfold getItem
  try with_reducible refine wpAny_holding ?_
  first | refine wpAny_bind (wpAny_pure ?_) | skip
  refine wpAny_bind (wpAny_sequenceKey ht.typeIs (by decide) ?_)
  refine wpAny_bind (wpAny_callSpecial?_slot (name := Str.ofString "__getitem__") ht.typeIs PyProof.Rows.slot_tuple_getitem
    (wpAny_call_entry PyProof.Rows.slot_tuple_getitem ht.typeIs PyProof.Rows.entry_tuple_getitem ?_ (PyProof.Rows.args_tuple_getitem _ _)))
  show wpAny _ _ (Builtin.Tuple.tupleItemsOf (.ref t) >>= _) _ _ s
  refine wpAny_bind (PyProof.Rows.tupleItemsOf_ ht ?_)
  refine wpAny_bind (wpAny_typeOf hTs ?_)
  rw [if_pos (by decide)]
  refine wpAny_bind (sliceApplied_rev hs pl pu ps ?_)
  have hno : ¬ ((((items.size : Int) - 1) == 0 && (-1 : Int) == 1 && items.size == items.size) = true) := by
    intro q
    rw [Bool.and_eq_true, Bool.and_eq_true] at q
    exact absurd q.1.2 (by decide)
  show wpAny _ _ (if (((items.size : Int) - 1) == 0 && (-1 : Int) == 1 && items.size == items.size) = true then _ else _) _ _ s
  rw [if_neg hno, rev_pick]
  first
    | exact wpAny_bind (m := Builtin.Tuple.tupleExact _) (wpAny_newObj_type (wpAny_pure ⟨_, rfl, wpAny_pure h⟩) htake)
    | exact wpAny_bind (m := Builtin.Tuple.tupleExact _) (wpAny_newObj_type (wpAny_bind (wpAny_pure (wpAny_pure ⟨_, rfl, wpAny_pure h⟩))) htake)
    | exact wpAny_bind (wpAny_bind (m := Builtin.Tuple.tupleExact _) (wpAny_newObj_type (wpAny_pure (wpAny_pure ⟨_, rfl, wpAny_pure h⟩)) htake))
    | exact wpAny_bind (wpAny_bind (m := Builtin.Tuple.tupleExact _) (wpAny_newObj_type (wpAny_pure ⟨_, rfl, wpAny_pure h⟩) htake))
end
def tRevM (K : PySem.W.Frag) (te : TE) : TE := fun σ H Q => te σ H fun x H1 => ∃ a xs, x = .ref a ∧
  ((SqL K H1 a xs ∧ ∀ p, H1 p = none → Q (.ref p) (upd H1 p (.lst xs.reverse))) ∨ (SqT K H1 a xs ∧ ∀ p, H1 p = none → Q (.ref p) (upd H1 p (.tup xs.reverse))))
theorem pe_revM {X : Cx} {e : Expr} {te : TE} {k : Nat} {p1 p2 p3 pos : Pos} (he : PE X e te) : PE X (.Subscript e (.Slice none none (some (.UnaryOp .USub (.Constant (.int 1) k p1) p2)) p3) pos) (tRevM X.K te) := by
  refine ⟨fun pins s σ H Q I h => ?_⟩
  refine Subscript_ (thn (he.run pins s σ H _ I h) fun v s1 ⟨x, H1, I1, r1, q1⟩ => ?_)
  obtain ⟨a, xs, ex, hq⟩ := q1
  subst ex
  cases r1
  have hst : PO X (some (.UnaryOp .USub (.Constant (.int 1) k p1) p2)) (tPart (tUn (rU fun i => .int (-i)) (tC (.int 1)))) := po_some (pe_un un_neg pe_int)
  refine wpAny_Slice (thn (po_none.run pins s1 σ H1 (fun o H2 => o = none ∧ H2 = H1) I1 ⟨rfl, rfl⟩) fun vl s2 ⟨l, H2, I2, pl, el, e2⟩ => ?_)
  subst el e2
  refine thn (po_none.run pins s2 σ H2 (fun o H3 => o = none ∧ H3 = H2) I2 ⟨rfl, rfl⟩) fun vu s3 ⟨u, H3, I3, pu, eu, e3⟩ => ?_
  subst eu e3
  refine thn (hst.run pins s3 σ H3 (fun o H4 => o = some (-1) ∧ H4 = H3) I3 ⟨1, rfl, -1, rfl, rfl, rfl⟩) fun vs s4 ⟨o, H4, I4, ps, eo, e4⟩ => ?_
  subst eo e4
  have I5 : Inv X pins σ H4 { s4 with heap := s4.heap.push { cls := .type "slice", data := .fields #[vl, vu, vs] } } := I4.kept (t' := s4.toks) fun b ob q => Heap.get?_push_of_some _ q
  show wpAny (model X.prog X.w) X.A (subscriptTail e (.Slice none none (some (.UnaryOp .USub (.Constant (.int 1) k p1) p2)) p3) (.ref a) (.ref s4.heap.objs.size)) (EP X pins σ Q) X.xe { s4 with heap := s4.heap.push { cls := .type "slice", data := .fields #[vl, vu, vs] } }
  rcases hq with ⟨hx, q⟩ | ⟨hx, q⟩
  · obtain ⟨its, r, ht, hz⟩ := I5.list hx
    have hlen := r.length
    refine tail_any (ops := [.ref a, .ref s4.heap.objs.size]) ht.isList.typeIs (PySem.slot_list_getitem.lookup) ?_ (by with_unfolding_all rfl)
    refine wpAny_getItem_list_slice ht.isList (Heap.IsSliceOf.new _ vl vu vs) pl pu ps (by decide) ?_ (by rw [List.size_toArray]; omega)
    rw [PySem.W.krv_pick]
    refine ⟨.ref _, _, I5.laid (t' := s4.toks) (o := .lst xs.reverse) (fun b ob q => Heap.get?_push_of_some _ q) (Nat.le_refl _) ?_, rfl, q _ (I5.hok.fresh (Nat.le_refl _))⟩
    exact ⟨by rw [List.length_reverse]; exact hz, _, 0, r.reverse, Heap.get?_push_size _ rfl⟩
  · obtain ⟨its, r, ht, hz⟩ := I5.tuple hx
    have hlen := r.length
    refine tail_any (ops := [.ref a, .ref s4.heap.objs.size]) ht.typeIs (PyProof.Rows.slot_tuple_getitem.lookup) ?_ (by with_unfolding_all rfl)
    refine getItem_tuple_rev ht (Heap.IsSliceOf.new _ vl vu vs) pl pu ps ?_ (by rw [List.size_toArray]; omega)
    refine ⟨.ref _, _, I5.laid (t' := s4.toks) (o := .tup xs.reverse) (fun b ob q => Heap.get?_push_of_some _ q) (Nat.le_refl _) ?_, rfl, q _ (I5.hok.fresh (Nat.le_refl _))⟩
    exact ⟨by rw [List.length_reverse]; exact hz, _, r.reverse, IsTup.new _ _⟩
section
variable {T : Tab} {B : Bd} {G : Cfg} {k : Nat} {N : List Str} {sc : Scope} {X : Cx} {W : WX}
theorem Rps.rev {K : PySem.W.Frag} {cn : Nat → Option (Addr × List Str)} {sa : Addr} {H : Hp} {ds : List D} {vs : List V} (r : Rps K cn sa H ds vs) : Rps K cn sa H ds.reverse vs.reverse := by
  induction ds generalizing vs with
  | nil =>
    cases vs with
    | nil => exact r
    | cons v vs => exact (absurd r.length (by simp))
  | cons d ds ih =>
    cases vs with
    | nil => exact (absurd r.length (by simp))
    | cons v vs =>
      rw [List.reverse_cons, List.reverse_cons]
      obtain ⟨w, ws, e, h1, h2⟩ := r
      cases e
      exact Rps.append (ih h2) (Rps.one h1)
theorem d_slrF (c : CxOk T B G k N sc X) {a : E} {a' : Expr} {n : Nat} {p1 p2 p3 pos : Pos} (ha : ∀ pk, PE X a' (tE B G W pk a)) : PE X (.Subscript a' (.Slice none none (some (.UnaryOp .USub (.Constant (.int 1) n p1) p2)) p3) pos) (tF B G W (.slr a)) :=
  PE.imp (pe_revM (ha true)) fun σ H Q ⟨sa, Hs0, H0, rs0, Hs, rs, ρ, sr, p⟩ => by
    unfold evalE at p
    refine toE sr p fun d Hs1 H1 rs1 v e1 sr1 r1 q => ?_
    have up : ∀ b, H1 b = none → H b = none := fun b hb => up_none e1 hb
    have fix : ∀ {z : D}, (∀ Hs' H' v, RpF B sa H1 Hs' H' z v → RpF B sa H Hs' H' z v) := by
      intro z Hs' H' v r
      cases z <;> first
        | exact r
        | (obtain ⟨a, h1, h2, h3⟩ := r; exact ⟨a, h1, up a h2, h3⟩)
    cases d with
    | tup xs =>
      obtain ⟨a, vs, rfl, h2, h3⟩ := rpo_tup' r1.o
      exact ⟨a, vs, rfl, .inr ⟨SqT.of (sr1.wd.sub _ _ h2), fun p hp => fin_tup sr1.wd hp h3.rev fun Hs' H' e v r => q Hs' H' e v (fix _ _ _ r)⟩⟩
    | lst xs =>
      obtain ⟨a, vs, rfl, h2, h3⟩ := rpo_lst sr1.wd.sub r1.o
      exact ⟨a, vs, rfl, .inl ⟨SqL.of h2, fun p hp => fin_lst sr1.wd hp h3.rev fun Hs' H' e v r => q Hs' H' e v (fix _ _ _ r)⟩⟩
    | _ => exact q.elim
end
end Mp

set_option Elab.async false
set_option linter.all false
set_option maxRecDepth 100000
set_option maxHeartbeats 2000000
/-! Mp, part 15f: own classes: fields, methods, instances, ==, str, isinstance. -/
namespace Mp
open PySem PySem.Spec PyProof.Rows L2
section
variable {X : Cx} {CX : CXT} {k : Nat} {f C : Addr} {fd : FuncData} {ps : List Str} {sp : Sp} {E : L2.St → XK} {x m : Str} {p pos apos : Pos} {e o : Expr} {es : List Expr} {ta : TE} {t : TA}
theorem ab_ok {o : Expr} (h : abOk o = true) {nm : Str} {env : PySem.Env} : attributeBase o nm env (eval o env) = eval o env := by
  cases o with
  | Call f args kws pos =>
    cases f <;> first | rfl | (cases args <;> first | rfl | cases h)
  | _ => first | rfl | cases h
theorem run_makeS {pins : List (Addr × Obj)} {σ : L2.St} {H : Hp} {s : Shared} {Q : VK} {us : List Value} {vs : List V} (M : Mk X.K C f) (F : FnOk X.prog X.w X.K X.mg X.base CX k f fd ps sp) (hr : Room (k + 1) X.A) (hb : Binds X.K fd ps [])
    (hx : PassesAt CX X σ (E σ)) (I : Inv X pins σ H s) (r : Vals vs us)
    (h : ∀ x dx, H x = none → H dx = none → dx ≠ x → sp (.ref x :: vs) (upd (upd H dx (.own x)) x (.ins C dx [])) (fun v H2 => v = .non ∧ Q (.ref x) H2) (E σ)) :
    wpAny (model X.prog X.w) X.A (call (.ref C) us) (EP X pins σ Q) X.xe s := by
  have hq := h (s.heap.objs.size + 1) s.heap.objs.size (I.hok.fresh (Nat.le_succ _)) (I.hok.fresh (Nat.le_refl _)) (Nat.ne_of_lt (Nat.lt_succ_self _))
  have I2 := Inv.made (C := C) I
  have r2 : Vals (V.ref (s.heap.objs.size + 1) :: vs) (Value.ref (s.heap.objs.size + 1) :: us) := .cons rfl r
  have hl : (Value.ref (s.heap.objs.size + 1) :: us).length = ps.length := by rw [← r2.length]; exact F.len _ _ _ _ hq
  have b := hb _ (Value.ref (s.heap.objs.size + 1) :: us) I2.kIn (by rw [List.append_nil]; exact hl)
  rw [List.append_nil] at b
  refine wpAny_call (make_map (f := f) I.kIn M.makes M.init (beq_iff_eq.mp M.fn) (codeAny_mono (F.run _ X.stack _ _ ⟨Value.ref (s.heap.objs.size + 1) :: us, []⟩ (Value.ref (s.heap.objs.size + 1) :: us) _ _ (E σ) (hr.make C us [])
    (I2.env0.make C us []) b r2 hq) fun r s' hq' => ?_))
  cases r with
  | error e => exact hx pins _ _ e s' I2 hq'
  | ok fl =>
    cases fl with
    | ret u =>
      obtain ⟨v, H', I3, rv, ev, q3⟩ := I2.after hq'
      subst ev
      exact ⟨rv, ⟨V.ref (s.heap.objs.size + 1), H', I3, rfl, q3⟩⟩
    | next => exact False.elim hq'
    | brk => exact False.elim hq'
    | cont => exact False.elim hq'
def tMakeS (C : Addr) (sp : Sp) (E : L2.St → XK) (t : TA) : TE := fun σ H Q => t σ H fun vs H1 => ∀ x dx, H1 x = none → H1 dx = none → dx ≠ x →
  sp (.ref x :: vs) (upd (upd H1 dx (.own x)) x (.ins C dx [])) (fun v H2 => v = .non ∧ Q (.ref x) H2) (E σ)
theorem pe_makeS (M : Mk X.K C f) (F : FnOk X.prog X.w X.K X.mg X.base CX k f fd ps sp) (hr : Room (k + 1) X.A) (hg : Gl X x) (hm : X.mg x = some (.ref C)) (hb : Binds X.K fd ps []) (hx : ∀ σ, PassesAt CX X σ (E σ))
    (ha : PA X (e :: es) t) (hdb : (x == ("__debug__" : Str)) = false) (he : starEach (e :: es) X.env = (false, eval e X.env) :: starEach es X.env) (hpl : (backTo pos (starEach es X.env)).any (·.1) = false) :
    PE X (.Call (.Name x p) (e :: es) [] pos) (tMakeS C sp E t) := by
  refine ⟨fun pins s σ H Q I h => ?_⟩
  refine wpAny_Call_Name_kw (ld_glob I hg hm ?_ hdb)
  refine PySem.W.callWith_K (h₀ := X.base) I.ok.mod.kin M.kp (thn (ha.run pos pins s σ H _ I h) fun us s1 ⟨vs, H1, I1, r, q⟩ => ⟨I1.kIn, ?_⟩) he hpl
  exact run_makeS M F hr hb (hx σ) I1 r q
theorem meth_form {nm : Str} {args : List Expr} {env : PySem.Env} (hb : attributeBase o nm env (eval o env) = eval o env) (hf : methodCallForm args.length (backTo pos (starEach args env)) [] = true) (hl : (apos.endLine == pos.line) = true) :
    eval (.Call (.Attribute o nm apos) args [] pos) env = (do
      let ov ← eval o env
      standAt apos.atName
      let (f, first) ← holding [ov] (getMethod ov nm (do return (← importBound o env).getD true))
      callWith pos f first (backTo pos (starEach args env)) (backToKw pos (keywordEach [] env))) := by
  show (do
    let ov ← attributeBase o nm env (eval o env)
    standAt apos.atName
    methodCall o nm apos pos env ov (args.length + 0) (backTo pos (starEach args env)) (backToKw pos (keywordEach [] env))) = _
  rw [hb]
  have e0 : backToKw pos (keywordEach [] env) = [] := rfl
  rw [e0, Nat.add_zero]
  unfold methodCall calleeOf methodCallPos
  rw [hf, hl]
  rfl
def tMethS (C : Addr) (m : Str) (sp : Sp) (E : L2.St → XK) (ta : TE) (t : TA) : TE := fun σ H Q => ta σ H fun x H1 => ∃ a dx fs, x = .ref a ∧ H1 a = some (.ins C dx fs) ∧ fs.lookup m = none ∧
  t σ H1 fun vs H2 => sp (x :: vs) H2 Q (E σ)
theorem pe_methS1 (he : PE X o ta) (c : Cls X.K C) (hm : Meth X.K C m f) (F : FnOk X.prog X.w X.K X.mg X.base CX k f fd ps sp) (hr : Room k X.A) (hb : Binds X.K fd ps []) (hx : ∀ σ, PassesAt CX X σ (E σ)) (ha : PA X (e :: es) t)
    (hab : attributeBase o m X.env (eval o X.env) = eval o X.env) (hf : methodCallForm (e :: es).length (backTo pos (starEach (e :: es) X.env)) [] = true) (hl : (apos.endLine == pos.line) = true)
    (hst : starEach (e :: es) X.env = (false, eval e X.env) :: starEach es X.env) (hpl : (backTo pos (starEach es X.env)).any (·.1) = false) :
    PE X (.Call (.Attribute o m apos) (e :: es) [] pos) (tMethS C m sp E ta t) := by
  refine ⟨fun pins s σ H Q I h => ?_⟩
  refine PySem.W.methodCall_KW (thn (he.run pins s σ H _ I h) fun u s1 ⟨x, H1, I1, rx, a, dx, fs, ex, ea, l, q⟩ => ?_) (meth_form hab hf hl)
  subst ex
  obtain rfl : u = Value.ref a := rx
  refine getmeth_ok I1 ea c hm l ?_
  refine PySem.W.callWith_K (first := [.ref a]) (h₀ := X.base) I.ok.mod.kin hm.kp (thn (ha.run pos pins s1 σ H1 _ I1 q) fun us s2 ⟨vs, H2, I2, r, q2⟩ => ⟨I2.kIn, ?_⟩) hst hpl
  exact run_fnS (us := .ref a :: us) (vs := .ref a :: vs) F hr hb (hx σ) I2 (.cons rfl r) q2
theorem pe_methS0 (he : PE X o ta) (c : Cls X.K C) (hm : Meth X.K C m f) (F : FnOk X.prog X.w X.K X.mg X.base CX k f fd ps sp) (hr : Room k X.A) (hb : Binds X.K fd ps []) (hx : ∀ σ, PassesAt CX X σ (E σ))
    (hab : attributeBase o m X.env (eval o X.env) = eval o X.env) (hl : (apos.endLine == pos.line) = true) :
    PE X (.Call (.Attribute o m apos) [] [] pos) (tMethS C m sp E ta tNil) := by
  refine ⟨fun pins s σ H Q I h => ?_⟩
  refine PySem.W.methodCall_KW (thn (he.run pins s σ H _ I h) fun u s1 ⟨x, H1, I1, rx, a, dx, fs, ex, ea, l, q⟩ => ?_) (meth_form hab rfl hl)
  subst ex
  obtain rfl : u = Value.ref a := rx
  refine getmeth_ok I1 ea c hm l ?_
  exact PySem.W.callWith_K0 (first := [.ref a]) I1.kIn hm.kp (run_fnS (us := [.ref a]) (vs := [.ref a]) F hr hb (hx σ) I1 (.cons rfl .nil) q)
theorem pe_stuck (hg : Gl X x) (hm : X.mg x = some (.ref C)) (hk : PySem.W.keepIn X.K (.ref C) = true)
    (ha : PA X (e :: es) t) (hdb : (x == ("__debug__" : Str)) = false) (he : starEach (e :: es) X.env = (false, eval e X.env) :: starEach es X.env) (hpl : (backTo pos (starEach es X.env)).any (·.1) = false) :
    PE X (.Call (.Name x p) (e :: es) [] pos) (fun σ H Q => t σ H fun _ _ => False) := by
  refine ⟨fun pins s σ H Q I h => ?_⟩
  refine wpAny_Call_Name_kw (ld_glob I hg hm ?_ hdb)
  exact PySem.W.callWith_K (h₀ := X.base) I.ok.mod.kin hk (thn (ha.run pos pins s σ H _ I h) fun us s1 ⟨vs, H1, I1, r, q⟩ => q.elim) he hpl
end
section
variable {T : Tab} {B : Bd} {G : Cfg} {k : Nat} {N : List Str} {sc : Scope} {X : Cx} {W : WX}
theorem zip_get {α : Type} {ns : List Str} {vs : List α} {i : Nat} {nm : Str} {v : α} (nd : ns.Nodup) (h1 : ns[i]? = some nm) (h2 : vs[i]? = some v) : (ns.zip vs).lookup nm = some v := by
  induction ns generalizing vs i with
  | nil => simp at h1
  | cons a ns ih =>
    cases vs with
    | nil => simp at h2
    | cons b vs =>
      rw [List.nodup_cons] at nd
      rw [List.zip_cons_cons, List.lookup_cons]
      cases i with
      | zero =>
        simp at h1 h2; subst h1; subst h2; simp
      | succ i =>
        simp at h1 h2
        have : (nm == a) = false := by
          rw [beq_eq_false_iff_ne]
          intro e; subst e
          exact nd.1 (List.mem_of_getElem? h1)
        rw [this]
        exact ih nd.2 h1 h2
theorem zip_no {α : Type} {ns : List Str} {vs : List α} {nm : Str} (h : nm ∉ ns) : (ns.zip vs).lookup nm = none := by
  induction ns generalizing vs with
  | nil => rfl
  | cons a ns ih =>
    cases vs with
    | nil => rfl
    | cons b vs =>
      simp only [List.mem_cons, not_or] at h
      rw [List.zip_cons_cons, List.lookup_cons]
      have : (nm == a) = false := beq_eq_false_iff_ne.mpr h.1
      rw [this]
      exact ih h.2
theorem rpo_obj {sa : Addr} {Hs H : Hp} {c : Nat} {fs : List D} {v : V} (h : RpO B sa Hs H (.obj c fs) v) : Rp B.K B.cn sa Hs (.obj c fs) v := by
  rcases h with h | ⟨s, a, h1, h2, h3⟩
  · exact h
  · cases s <;> first | (cases h1; done) | (exact absurd h2 (by simp [svD]))
theorem d_fld (c : CxOk T B G k N sc X) {o : E} {o' : Expr} {cc f : Nat} {nm : Str} {pos : Pos} (hf : ((T.cls[cc]?).bind fun q => q.flds[f]?) = some nm) (hb : abOk o' = true) (ho : ∀ pk, PE X o' (tE B G W pk o)) : ∀ pk, PE X (.Attribute o' nm pos) (tE B G W pk (.fld o cc f)) := fun pk => by
  obtain ⟨cl, h1, h2⟩ := Option.bind_eq_some_iff.mp hf
  obtain ⟨C, ci⟩ := c.cls cc cl h1
  refine PE.imp (pe_fld (ho true) (ab_ok hb)) fun σ H Q ⟨sa, Hs0, H0, rs0, Hs, rs, ρ, sr, p⟩ => ?_
  unfold evalE at p
  refine toE sr p fun d Hs1 H1 rs1 v e1 sr1 r1 p1 => ?_
  cases d <;> first | exact (show False from p1).elim | skip
  rename_i c' fs
  dsimp only at p1
  split at p1
  case isFalse => exact (show False from p1).elim
  case isTrue hc =>
  subst hc
  obtain ⟨z, hz, q⟩ := Post.optSome p1
  obtain ⟨a, C', dx, ns, vs, rfl, g1, g2, g3, g4⟩ := rpo_obj r1.o
  rw [ci.cn] at g1; cases g1
  obtain ⟨u, hu, ru⟩ := g4.get hz
  exact ⟨a, C, dx, _, u, rfl, sr1.wd.sub _ _ g2, ci.cls, ci.na _ (List.mem_of_getElem? h2), zip_get ci.nd h2 hu, q _ _ sr1.wd.refl _ (RpB.of ru)⟩
theorem few_form {es : List Expr} {env : PySem.Env} (h : es.all okX = true) (hn : es.length < 30) (q : Pos) : methodCallForm es.length (backTo q (starEach es env)) [] = true := by
  have h1 : (backTo q (starEach es env)).all (fun x => !x.1) = true := by
    have := noStars (env := env) h q
    rw [List.all_eq_true]
    intro x hx
    cases hb : x.1 with
    | false => rfl
    | true =>
      have : (backTo q (starEach es env)).any (·.1) = true := List.any_eq_true.mpr ⟨x, hx, hb⟩
      rw [noStars (env := env) h q] at this; cases this
  unfold methodCallForm
  rw [h1]
  simp [hn]
theorem d_meth (c : CxOk T B G k N sc X) (tk : Takes X W) {o : E} {es : Es} {o' : Expr} {es' : List Expr} {cc f : Nat} {nm : Str} {ap cp : Pos} (hf : (T.fns[f]?).map (fun g => (g.name, g.ps, g.kd, g.c)) = some (nm, es'.length + 1, 1, cc)) (hb : abOk o' = true)
    (hn : (T.cls[cc]?).map (fun q => decide (nm ∈ q.flds)) = some false) (hl : (ap.endLine == cp.line) = true) (h30 : es'.length < 30) (hes : isEs T N sc es es' = true) (ho : ∀ pk, PE X o' (tE B G W pk o)) (ha : ∀ pk, PA X es' (tAr B G W pk es)) :
    ∀ pk, PE X (.Call (.Attribute o' nm ap) es' [] cp) (tE B G W pk (.meth cc f o es)) := fun pk => by
  obtain ⟨fn, h1, h2⟩ := Option.map_eq_some_iff.mp hf
  obtain ⟨rfl, h2a⟩ := Prod.mk.inj h2
  obtain ⟨h3, h2b⟩ := Prod.mk.inj h2a
  obtain ⟨h4, rfl⟩ := Prod.mk.inj h2b
  obtain ⟨cl, hcl, hnm⟩ := Option.map_eq_some_iff.mp hn
  have hnm : fn.name ∉ cl.flds := by simpa using hnm
  obtain ⟨C, ci⟩ := c.cls _ cl hcl
  obtain ⟨C', ns, ad, fd, ps, m1, m2, m3, m4, m5, F⟩ := c.mts f fn h1 h4
  rw [ci.cn] at m1; cases m1
  obtain ⟨hlen, hok⟩ := isEs_len es _ hes
  have key : ∀ (t : TA), (∀ σ H Q, tAr B G W false es σ H Q → t σ H Q) → ∀ σ H Q, tE B G W pk (.meth fn.c f o es) σ H Q → tMethS C fn.name (spF B fn.ps (G.call f)) (WE W) (tE B G W true o) t σ H Q := by
    intro t ht σ H Q ⟨sa, Hs0, H0, rs0, Hs, rs, ρ, sr, p⟩
    unfold evalE at p
    refine toE sr p fun d Hs1 H1 rs1 v e1 sr1 r1 p1 => ?_
    cases d <;> first | exact (show False from p1).elim | skip
    rename_i c' fs
    dsimp only at p1
    split at p1
    case isFalse => exact (show False from p1).elim
    case isTrue hc =>
    subst hc
    have ro := rpo_obj r1.o
    obtain ⟨a, C', dx, ns, vs, rfl, g1, g2, g3, g4⟩ := id ro
    rw [ci.cn] at g1; cases g1
    refine ⟨a, dx, _, rfl, sr1.wd.sub _ _ g2, zip_no hnm, ht _ _ _ ?_⟩
    refine toAL sr1 p1 fun ds Hs2 H2 rs2 us e2 sr2 r2 hlen2 p => ?_
    refine ⟨by rw [List.length_cons, ← r2.1, hlen2, hlen, h3], sa, Hs2, .obj fn.c fs :: ds, rs2, sr2.wd, ⟨.ref a, us, rfl, Rp.mono e2.ss _ _ ro, rps_of r2⟩, Post.mono p fun d Hs' H' rs' e' q v r => q v (RpB.of r)⟩
  cases es' with
  | nil =>
    refine PE.imp (pe_methS0 (ho true) m2 m3 F c.room m4 (passAt tk) (ab_ok hb) hl) (key _ fun σ H Q ⟨sa, Hs0, H0, rs0, Hs, rs, ρ, sr, p⟩ => ?_)
    cases es with
    | cons e r => simp [Es.len] at hlen
    | nil => exact p _ _ sr.wd.refl [] ⟨rfl, fun i d v hd _ => by simp at hd⟩
  | cons a r =>
    have hok' := hok
    rw [List.all_cons, Bool.and_eq_true] at hok'
    exact PE.imp (pe_methS1 (ho true) m2 m3 F c.room m4 (passAt tk) (ha false) (ab_ok hb) (few_form hok h30 _) hl (starEach_ok hok'.1) (noStars hok'.2 _)) (key _ fun _ _ _ q => q)
theorem d_make (c : CxOk T B G k N sc X) (tk : Takes X W) {f cc : Nat} {es : Es} {x : Str} {a : Expr} {r : List Expr} {p pos : Pos} (hf : (T.fns[f]?).map (fun g => (g.ps, g.kd, g.c)) = some (r.length + 2, 2, cc)) (hc : (T.cls[cc]?).map (fun q => q.name) = some x)
    (hg : glB sc x = true) (hn : nameOk x = true) (hes : isEs T N sc es (a :: r) = true) (ha : ∀ pk, PA X (a :: r) (tAr B G W pk es)) : ∀ pk, PE X (.Call (.Name x p) (a :: r) [] pos) (tE B G W pk (.make cc f es)) := fun pk => by
  obtain ⟨fn, h1, h2⟩ := Option.map_eq_some_iff.mp hf
  obtain ⟨h3, h2b⟩ := Prod.mk.inj h2
  obtain ⟨h4, rfl⟩ := Prod.mk.inj h2b
  obtain ⟨cl, hcl, rfl⟩ := Option.map_eq_some_iff.mp hc
  obtain ⟨C, ci⟩ := c.cls _ cl hcl
  obtain ⟨C', ns, ad, fd, ps, m1, m2, m3, m4, m5⟩ := c.ini f fn h1 h4
  rw [ci.cn] at m1; cases m1
  obtain ⟨hl, hok⟩ := isEs_len es _ hes
  rw [List.all_cons, Bool.and_eq_true] at hok
  rcases m5 with st | ⟨j, hj, F⟩
  · refine PE.imp (pe_stuck (c.gl hg) ci.mgC ci.kp (ha false) (nameOk1 hn).1 (starEach_ok hok.1) (noStars hok.2 _)) fun σ H Q ⟨sa, Hs0, H0, rs0, Hs, rs, ρ, sr, p⟩ => ?_
    unfold evalE at p
    refine toAL sr p fun ds Hs1 H1 rs1 vs e1 sr1 r1 hlen p => ?_
    rw [st] at p; exact p
  · refine PE.imp (pe_makeS m2 F (c.room.mono hj) (c.gl hg) ci.mgC m3 (passAt tk) (ha false) (nameOk1 hn).1 (starEach_ok hok.1) (noStars hok.2 _)) fun σ H Q ⟨sa, Hs0, H0, rs0, Hs, rs, ρ, sr, p⟩ => ?_
    unfold evalE at p
    refine toAL sr p fun ds Hs1 H1 rs1 vs e1 sr1 r1 hlen p => ?_
    intro y dx hy hdx hne
    refine ⟨by rw [List.length_cons, ← r1.1, hlen, hl, h3]; rfl, sa, Hs1, H1, ds, rs1, y, dx, C, cl.flds, vs, rfl, ci.cn, hy, hdx, hne, rfl, sr1.wd, rps_of r1, Post.mono p fun d Hs' H' rs' e' q r => ⟨rfl, q _ (RpB.of r)⟩⟩
theorem d_isc (c : CxOk T B G k N sc X) {a : E} {a' : Expr} {cc : Nat} {y : Str} {p py pos : Pos} (h1 : glB sc "isinstance" = true) (h2 : (T.cls[cc]?).map (fun q => q.name) = some y) (h3 : glB sc y = true) (hn : nameOk y = true) (ok : okX a' = true) (ha : ∀ pk, PE X a' (tE B G W pk a)) :
    ∀ pk, PE X (.Call (.Name "isinstance" p) [a', .Name y py] [] pos) (tE B G W pk (.isc a cc)) := fun pk => by
  obtain ⟨cl, hcl, rfl⟩ := Option.map_eq_some_iff.mp h2
  obtain ⟨C, ci⟩ := c.cls _ cl hcl
  refine PE.imp (pe_callB call_isi (c.gl h1) (c.blt _ (by decide)) (by decide +kernel) (pa_cons (ha true) (pa_cons (pe_glob (v := .ref C) (c.gl h3) ci.mgC rfl (nameOk1 hn).1) pa_nil) (starEach_ok ok)) (by decide) (by decide) (starEach_ok ok) rfl) fun σ H Q ⟨sa, Hs0, H0, rs0, Hs, rs, ρ, sr, p⟩ => ?_
  unfold evalE at p
  refine toE sr p fun d Hs1 H1 rs1 v e1 sr1 r1 p1 => ?_
  have other : ∀ n, tyNm d = some n → (M.ok (D.bl false) rs1 = Res.ok (D.bl false) rs1 → Q (.bl false) H1) → rIsi X.K [v, .ref C] H1 Q := fun n hn q => by
    have hm : n ∈ tyAll := by cases d <;> simp [tyNm] at hn <;> subst hn <;> simp [tyAll]
    exact ⟨v, .ref C, .type n, .ref C, false, rfl, .own C, by rw [c.hK]; exact tyx_of sr1.wd r1.o hn, ci.kb n hm, q rfl⟩
  cases d with
  | obj c' fs =>
    dsimp only at p1
    split at p1
    case isFalse => exact (show False from p1).elim
    case isTrue hc =>
    subst hc
    obtain ⟨b, C', dx, ns, vs, rfl, g1, g2, g3, g4⟩ := rpo_obj r1.o
    rw [ci.cn] at g1; cases g1
    exact ⟨.ref b, .ref C, .ref C, .ref C, true, rfl, .own C, .base (.ins (sr1.wd.sub _ _ g2) ci.cls ci.cc ci.hn ci.tk ci.om), by unfold PySem.W.kitOne; rw [if_pos (by simp)], p1 _ _ sr1.wd.refl _ (RpB.of rfl)⟩
  | st => exact (show False from p1).elim
  | non => exact other _ rfl fun _ => p1 _ _ sr1.wd.refl _ (RpB.of rfl)
  | bl b => exact other _ rfl fun _ => p1 _ _ sr1.wd.refl _ (RpB.of rfl)
  | int b => exact other _ rfl fun _ => p1 _ _ sr1.wd.refl _ (RpB.of rfl)
  | str b => exact other _ rfl fun _ => p1 _ _ sr1.wd.refl _ (RpB.of rfl)
  | tup b => exact other _ rfl fun _ => p1 _ _ sr1.wd.refl _ (RpB.of rfl)
  | lst b => exact other _ rfl fun _ => p1 _ _ sr1.wd.refl _ (RpB.of rfl)
  | scr b => exact other _ rfl fun _ => p1 _ _ sr1.wd.refl _ (RpB.of rfl)
  | ktp b => exact other _ rfl fun _ => p1 _ _ sr1.wd.refl _ (RpB.of rfl)
  | dic t b c => exact other _ rfl fun _ => p1 _ _ sr1.wd.refl _ (RpB.of rfl)
theorem passE0 : Passes (L2.CX X.prog X.w) X (fun _ _ _ => False) := fun pins σ H s e s' I c => by
  obtain ⟨_, _, _, _, _, _, _, _, _, _, _, _, z⟩ := c
  exact z.elim
theorem post_nox {α β : Type} {sa : Addr} {W W' : Value → Option Addr → Hp → Prop} {Hs H : Hp} {rs : Rg} {m : M α} {f : α → M β} {Q : β → Hp → Hp → Rg → Prop} (h : Post B sa W Hs H rs (M.bind (M.nox m) f rs) Q) :
    Post B sa W' Hs H rs (m rs) (fun a Hs' H' rs' => Post B sa W Hs' H' rs' (f a rs') Q) := by
  unfold M.bind M.nox at h
  cases e : m rs with
  | ok a rs' => rw [e] at h; exact fun Hs' H' e' => Post.shift e' h
  | exc c d rs' => rw [e] at h; exact h.elim
  | stuck => rw [e] at h; exact h
/-- x == y by x's own __eq__ -/
def rOwn (K : PySem.W.Frag) (C : Addr) (sp : Sp) : R2 := fun x y H Q => ∃ a dx fs tb, x = .ref a ∧ H a = some (.ins C dx fs) ∧ TyX K H y tb ∧ PySem.W.notFirst K C tb = true ∧ sp [x, y] H (fun v H' => ∃ b, v = .bl b ∧ Q (.bl b) H') (fun _ _ _ => False)
theorem op_ownEq {C f : Addr} {fd : FuncData} {ps : List Str} {sp : Sp} (hm : Meth X.K C "__eq__" f) (F : FnOk X.prog X.w X.K X.mg X.base (L2.CX X.prog X.w) k f fd ps sp) (hr : Room k X.A) (hb : Binds X.K fd ps []) : OpR X (compareOp .Eq) (rOwn X.K C sp) := by
  intro pins s σ H x y v u Q I rx ry ⟨a, dx, fs, tb, ex, ea, ty, nf, h⟩
  subst ex
  obtain rfl : v = Value.ref a := rx
  obtain ⟨mA, J, _⟩ := ins_get I.hok ea
  obtain ⟨od, J, _⟩ := J.look
  obtain ⟨m, hF⟩ := I.fr
  obtain ⟨P, Z, p, _⟩ := kit_of I ry ty
  show wpAny (model X.prog X.w) X.A (richCompare .Eq (.ref a) u) (EP X pins σ Q) X.xe s
  refine PySem.W.cmp_K (op := .Eq) (tb := tb) hr.units0 hF I.ok.mod.kin J (Z.ty _ _ I.kIn p) nf hm.at_ hm.fn ?_
  refine wpAny_mono (run_fn (us := [.ref a, u]) (vs := [.ref a, y]) F hr hb .nil passE0 I (.cons rfl (.cons ry .nil)) h) (fun r s' q => ?_) fun _ _ e => e
  obtain ⟨z, H', I', rz, b, ez, q⟩ := q
  subst ez
  cases rz
  exact ⟨.bl b, H', I', rfl, q⟩
theorem d_oeq (c : CxOk T B G k N sc X) {a b : E} {a' b' : Expr} {cc f : Nat} {pos : Pos} (hf : (T.fns[f]?).map (fun g => (g.name, g.ps, g.kd, g.c)) = some (("__eq__" : Str), 2, 1, cc)) (hcl : (T.cls[cc]?).isSome = true) (hb' : okX b' = true) (ha : ∀ pk, PE X a' (tE B G W pk a)) (hb : ∀ pk, PE X b' (tE B G W pk b)) :
    (∀ pk, PE X (.Compare a' [.Eq] [b'] pos) (tE B G W pk (.oeq cc f a b))) ∧ PT X (.Compare a' [.Eq] [b'] pos) (tT B G W (.oeq cc f a b)) := by
  obtain ⟨fn, h1, h2⟩ := Option.map_eq_some_iff.mp hf
  obtain ⟨h5, h2a⟩ := Prod.mk.inj h2
  obtain ⟨h3, h2b⟩ := Prod.mk.inj h2a
  obtain ⟨h4, rfl⟩ := Prod.mk.inj h2b
  obtain ⟨cl, hcl⟩ := Option.isSome_iff_exists.mp hcl
  obtain ⟨C, ci⟩ := c.cls _ cl hcl
  obtain ⟨C', ns, ad, fd, ps, m1, m2, m3, m4, m5, F⟩ := c.mts f fn h1 h4
  rw [ci.cn] at m1; cases m1
  rw [h5] at m3
  have op := op_ownEq m3 F c.room m4
  have key : ∀ {sa : Addr} {Hs0 H0 Hs H : Hp} {rs0 rs : Rg} {ρ : Env} {σ : L2.St} {Q : D → Hp → Hp → Rg → Prop} {R : V → Hp → Prop} (pk : Bool), SR B sa Hs0 H0 rs0 Hs H rs ρ σ → Post B sa (fun cls dd H' => W cls dd σ H') Hs H rs (evalE G pk (.oeq fn.c f a b) ρ rs) Q →
      (∀ z Hs1 H1 rs1, Wd B sa Hs1 H1 rs1 → Q (.bl z) Hs1 H1 rs1 → R (.bl z) H1) → tOp (rOwn X.K C (spF B fn.ps (G.call f))) (tE B G W true a) (tE B G W false b) σ H R := by
    intro sa Hs0 H0 Hs H rs0 rs ρ σ Q R pk sr p kk
    unfold evalE at p
    refine toE sr p fun d Hs1 H1 rs1 v e1 sr1 r1 p1 => ?_
    refine toE sr1 p1 fun d2 Hs2 H2 rs2 u e2 sr2 r2 p2 => ?_
    cases d <;> first | exact (show False from p2).elim | skip
    rename_i c' fs
    dsimp only at p2
    split at p2
    case isFalse => exact (show False from p2).elim
    case isTrue hc =>
    obtain ⟨rfl, ht⟩ := hc
    have ro := Rp.mono e2.ss _ _ (rpo_obj r1.o)
    obtain ⟨x, C', dx, ns, vs, rfl, g1, g2, g3, g4⟩ := id ro
    rw [ci.cn] at g1; cases g1
    have r2' : Rp B.K B.cn sa Hs2 d2 u := by
      unfold RpB at r2
      rw [if_neg (by simp)] at r2; exact r2
    have tyu : ∃ tb, TyX X.K H2 u tb ∧ PySem.W.notFirst X.K C tb = true := by
      have other : ∀ n, tyNm d2 = some n → ∃ tb, TyX X.K H2 u tb ∧ PySem.W.notFirst X.K C tb = true := fun n hn =>
        ⟨.type n, by rw [c.hK]; exact tyx_of sr2.wd r2.o hn, ci.nf n (by cases d2 <;> simp [tyNm] at hn <;> subst hn <;> simp [tyAll])⟩
      cases d2 with
      | obj c'' gs =>
        have hcc : c'' = fn.c := by simpa [eqTy] using ht
        subst hcc
        obtain ⟨y, C', dy, ns, vs, rfl, q1, q2, q3, q4⟩ := r2'
        rw [ci.cn] at q1; cases q1
        exact ⟨.ref C, .base (.ins (sr2.wd.sub _ _ q2) ci.cls ci.cc ci.hn ci.tk ci.om), by unfold PySem.W.notFirst; simp⟩
      | st => simp [eqTy] at ht
      | non => exact other _ rfl
      | bl b => exact other _ rfl
      | int b => exact other _ rfl
      | str b => exact other _ rfl
      | tup b => exact other _ rfl
      | lst b => exact other _ rfl
      | scr b => exact other _ rfl
      | ktp b => exact other _ rfl
      | dic t b c => exact other _ rfl
    obtain ⟨tb, ty, nf⟩ := tyu
    refine ⟨x, dx, _, tb, rfl, sr2.wd.sub _ _ g2, ty, nf, by rw [h3]; rfl, sa, Hs2, [.obj fn.c fs, d2], rs2, sr2.wd, ⟨_, _, rfl, ro, Rps.one r2'⟩, Post.mono (post_nox p2) fun z Hs' H' rs' e' q v rv => ?_⟩
    cases z <;> first | exact (show False from q).elim | skip
    rename_i zb
    obtain rfl : v = .bl zb := rv
    exact ⟨zb, rfl, kk zb Hs' H' rs' e'.wd (q _ _ e'.wd.refl)⟩
  refine ⟨fun pk => PE.imp (pe_cmpR op (ha true) (hb false) (nomarkX hb' _)) fun σ H Q ⟨sa, Hs0, H0, rs0, Hs, rs, ρ, sr, p⟩ => ?_,
    PT.imp (pt_cmpR op (ha true) (hb false) (nomarkX hb' _)) fun σ H Q ⟨sa, Hs0, H0, rs0, Hs, rs, ρ, sr, p⟩ => ?_⟩
  · exact key pk sr p fun z Hs1 H1 rs1 w q => q _ (RpB.of rfl)
  · refine key (R := fun x H' => ∃ k, x = .bl k ∧ Q k H') true sr p fun z Hs1 H1 rs1 w q => ?_
    obtain ⟨b, hb, q⟩ := q
    cases hb
    exact ⟨z, rfl, q⟩
/-- str(x) by x's own __str__ -/
theorem call_ownStr {C f : Addr} {fd : FuncData} {ps : List Str} {sp : Sp} {j : Nat} (hm : Meth X.K C "__str__" f) (F : FnOk X.prog X.w X.K X.mg X.base (L2.CX X.prog X.w) j f fd ps sp) (hr : Room (j + 2) X.A) (hb : Binds X.K fd ps []) :
    CallR X (.type "str") (fun vs H Q => ∃ a dx fs, vs = [.ref a] ∧ H a = some (.ins C dx fs) ∧ sp [.ref a] H (fun v H' => ∃ z, v = .str z ∧ Q (.str z) H') (fun _ _ _ => False)) := by
  intro pins s σ H xs us Q I r ⟨a, dx, fs, ex, ea, h⟩
  subst ex
  obtain ⟨u, rfl, ru⟩ := vals1 r
  obtain rfl : u = Value.ref a := ru
  obtain ⟨mA, J, _⟩ := ins_get I.hok ea
  obtain ⟨od, J, _⟩ := J.look
  have hr2 : Room j X.A.in1.in1 := hr.in1.in1
  refine PySem.W.kso_call hr2.units0 I.kIn J hm.at_ hm.fn ?_
  have hl := F.len _ _ _ _ h
  have b := hb s [.ref a] I.kIn (by simpa using hl)
  rw [List.append_nil] at b
  refine wpAny_call (codeAny_mono (F.run X.A.in1.in1 X.stack s H ⟨[.ref a], []⟩ [.ref a] [.ref a] _ _ hr2 I.env0.in1.in1 b (.cons rfl .nil) h) fun r s' hq => ?_)
  cases r with
  | error e => exact passE0 pins σ H s e s' I hq
  | ok fl =>
    cases fl with
    | ret u =>
      obtain ⟨v, H', I', rv, z, ev, q⟩ := I.after hq
      subst ev
      obtain ⟨t, rfl⟩ := rv
      exact ⟨.str z, H', I', ⟨t, rfl⟩, q⟩
    | next => exact False.elim hq
    | brk => exact False.elim hq
    | cont => exact False.elim hq
theorem d_ostr (c : CxOk T B G k N sc X) {a : E} {a' : Expr} {cc f : Nat} {p pos : Pos} (h1 : glB sc "str" = true) (hf : (T.fns[f]?).map (fun g => (g.name, g.ps, g.kd, g.c)) = some (("__str__" : Str), 1, 3, cc)) (hcl : (T.cls[cc]?).isSome = true) (ok : okX a' = true) (ha : ∀ pk, PE X a' (tE B G W pk a)) :
    ∀ pk, PE X (.Call (.Name "str" p) [a'] [] pos) (tE B G W pk (.ostr cc f a)) := fun pk => by
  obtain ⟨fn, h2, h3⟩ := Option.map_eq_some_iff.mp hf
  obtain ⟨h5, h3a⟩ := Prod.mk.inj h3
  obtain ⟨h6, h3b⟩ := Prod.mk.inj h3a
  obtain ⟨h4, rfl⟩ := Prod.mk.inj h3b
  obtain ⟨cl, hcl⟩ := Option.isSome_iff_exists.mp hcl
  obtain ⟨C, ci⟩ := c.cls _ cl hcl
  obtain ⟨C', ns, ad, fd, ps, m1, m2, m3, m4, m5, m6⟩ := c.sts f fn h2 h4
  rw [ci.cn] at m1; cases m1
  rw [h5] at m3
  have body : ∀ {σ : L2.St} {H : Hp} {Q : VK} {rr : List V → Hp → VK → Prop}, (∀ (d : D) (Hs1 H1 : Hp) (rs1 : Rg) (v : V) (sa : Addr), Wd B sa Hs1 H1 rs1 → ∀ x dx (vs : List V) gs, v = .ref x → H1 x = some (.ins C dx (cl.flds.zip vs)) → Rp B.K B.cn sa Hs1 (.obj fn.c gs) v → Post B sa (fun cls dd H' => W cls dd σ H') Hs1 H1 rs1 (M.bind (M.nox (G.call f [.obj fn.c gs])) (fun z => (match z with | .str k => M.ok (.str k) | _ => M.stuck)) rs1) (fun d Hs' H' _ => ∀ v, RpB B sa pk Hs' H' d v → Q v H') → rr [v] H1 Q) →
      tE B G W pk (.ostr fn.c f a) σ H Q → tCB rr (tCons (tE B G W true a) tNil) σ H Q := by
    intro σ H Q rr hk ⟨sa, Hs0, H0, rs0, Hs, rs, ρ, sr, p⟩
    unfold evalE at p
    refine toE sr p fun d Hs1 H1 rs1 v e1 sr1 r1 p1 => ?_
    cases d <;> first | exact (show False from p1).elim | skip
    rename_i c' fs
    dsimp only at p1
    split at p1
    case isFalse => exact (show False from p1).elim
    case isTrue hc =>
    subst hc
    have ro := rpo_obj r1.o
    obtain ⟨x, C', dx, ns, vs, rfl, g1, g2, g3, g4⟩ := id ro
    rw [ci.cn] at g1; cases g1
    exact hk .non Hs1 H1 rs1 _ sa sr1.wd x dx vs fs rfl (sr1.wd.sub _ _ g2) ro p1
  rcases m6 with st | ⟨j, hj, F⟩
  · have cr : CallR X (.type "str") (fun _ _ _ => False) := fun pins s σ H xs us Q I r h => h.elim
    refine PE.imp (pe_callTy cr (c.gl h1) (c.blt _ (by decide)) (by decide +kernel) (pa_cons (ha true) pa_nil (starEach_ok ok)) (by decide) (by decide) (starEach_ok ok) rfl) fun σ H Q q => body (fun d Hs1 H1 rs1 v sa w x dx vs gs _ _ _ p => ?_) q
    have p2 : Post B sa (fun cls dd H' => W cls dd σ H') Hs1 H1 rs1 (G.call f [.obj fn.c gs] rs1) _ := post_nox p
    rw [st] at p2; exact p2
  · refine PE.imp (pe_callTy (call_ownStr m3 F (c.room.mono hj) m4) (c.gl h1) (c.blt _ (by decide)) (by decide +kernel) (pa_cons (ha true) pa_nil (starEach_ok ok)) (by decide) (by decide) (starEach_ok ok) rfl) fun σ H Q q => body (fun d Hs1 H1 rs1 v sa w x dx vs gs ev hx ro p => ?_) q
    subst ev
    refine ⟨x, dx, _, rfl, hx, by rw [h6]; rfl, sa, Hs1, [.obj fn.c gs], rs1, w, Rps.one ro, Post.mono (post_nox p) fun z Hs' H' rs' e' q v rv => ?_⟩
    cases z <;> first | exact (show False from q).elim | skip
    rename_i zb
    obtain rfl : v = .str zb := rv
    exact ⟨zb, rfl, q _ _ e'.wd.refl _ (RpB.of rfl)⟩
end
end Mp

set_option Elab.async false
set_option linter.all false
set_option maxRecDepth 100000
set_option maxHeartbeats 4000000
/-! Mp, part 16: all expressions are sound. -/
namespace Mp
open PySem PySem.Spec L2
def fresh : E → Bool
  | .bin .. => true | .lst _ => true | .sl .. => true | .slr _ => true | .bi .. => true | .comp .. => true | .compK .. => true | .dnew .. => true | .ddisp .. => true | _ => false
structure SndE (B : Bd) (G : Cfg) (X : Cx) (W : WX) (e : E) (e' : Expr) : Prop where
  pe : ∀ pk, PE X e' (tE B G W pk e)
  pt : tOk e' = true → PT X e' (tT B G W e)
  pw : isBool e' = true → PW X e' (tT B G W e)
  pf : fresh e = true → PE X e' (tF B G W e)
/-- tested by its value -/
def byVal : Expr → Bool
  | .UnaryOp .Not .. => false | .BoolOp .. => false | .IfExp .. => false | .Compare .. => false | _ => true
section
variable {T : Tab} {B : Bd} {G : Cfg} {k : Nat} {N : List Str} {sc : Scope} {X : Cx} {W : WX} {e : E} {e' : Expr}
theorem byVal_ok (h : byVal e' = true) {env : PySem.Env} : ∀ whole, isTrue e' env whole = (do let v ← whole; standAt e'.pos; holding [v] (truthy v)) := by
  intro whole
  cases e' <;> first | rfl | (cases h; done) | skip
  rename_i op a pos
  cases op <;> first | rfl | cases h
theorem byVal_nb (h : byVal e' = true) : isBool e' = false := by cases e' <;> first | rfl | cases h
theorem SndE.ofV (h : ∀ pk, PE X e' (tE B G W pk e)) (hv : byVal e' = true) (hf : fresh e = false) : SndE B G X W e e' :=
  ⟨h, fun _ => t_val h (byVal_ok hv), fun z => absurd z (by rw [byVal_nb hv]; simp), fun z => absurd z (by rw [hf]; simp)⟩
theorem SndE.ofF (h : PE X e' (tF B G W e)) (hv : byVal e' = true) (hpk : ∀ pk ρ rs, evalE G pk e ρ rs = evalE G false e ρ rs) : SndE B G X W e e' :=
  ⟨d_ofF hpk h, fun _ => t_val (d_ofF hpk h) (byVal_ok hv), fun z => absurd z (by rw [byVal_nb hv]; simp), fun _ => h⟩
end
mutual
theorem soundE {T : Tab} {B : Bd} {G : Cfg} {k : Nat} {N : List Str} : ∀ (e : E) (sc : Scope) (X : Cx) (W : WX) (e' : Expr), CxOk T B G k N sc X → Takes X W → isE T N sc e e' = true → SndE B G X W e e'
  | .slot i, sc, X, W, e', c, tk, h => by
    have := d_slot (W := W) c h
    unfold isE at h
    split at h
    · exact .ofV this rfl rfl
    · cases h
  | .knon, sc, X, W, e', c, tk, h => by
    unfold isE at h
    split at h
    · exact .ofV (d_const pe_non (fun pk ρ => rfl) fun _ _ => rfl) rfl rfl
    · cases h
  | .kbl b, sc, X, W, e', c, tk, h => by
    unfold isE at h
    split at h
    · rw [decide_eq_true_eq] at h
      subst h
      exact .ofV (d_const pe_bl (fun pk ρ => rfl) fun _ _ => rfl) rfl rfl
    · cases h
  | .kint i, sc, X, W, e', c, tk, h => by
    unfold isE at h
    split at h
    · rw [decide_eq_true_eq] at h
      subst h
      exact .ofV (d_const pe_int (fun pk ρ => rfl) fun _ _ => rfl) rfl rfl
    · cases h
  | .kstr s, sc, X, W, e', c, tk, h => by
    unfold isE at h
    split at h
    · rw [decide_eq_true_eq] at h
      subst h
      exact .ofV (d_const pe_str (fun pk ρ => rfl) fun _ _ => rfl) rfl rfl
    · cases h
  | .con g, sc, X, W, e', c, tk, h => by
    have := d_con (W := W) c h
    unfold isE at h
    split at h
    · exact .ofV this rfl rfl
    · cases h
  | .bin op a b, sc, X, W, e', c, tk, h => by
    unfold isE at h
    split at h
    · simp only [Bool.and_eq_true, decide_eq_true_eq] at h
      obtain ⟨⟨rfl, h2⟩, h3⟩ := h
      exact .ofF (d_binF c (soundE a sc X W _ c tk h2).pe (soundE b sc X W _ c tk h3).pe) rfl (fun pk ρ rs => rfl)
    · cases h
  | .neg a, sc, X, W, e', c, tk, h => by
    unfold isE at h
    split at h
    · exact .ofV (d_neg c (soundE a sc X W _ c tk h).pe) rfl rfl
    · cases h
  | .cmp op a b, sc, X, W, e', c, tk, h => by
    unfold isE at h
    split at h
    · simp only [Bool.and_eq_true, decide_eq_true_eq] at h
      obtain ⟨⟨⟨rfl, h1⟩, h2⟩, h3⟩ := h
      obtain ⟨q1, q2⟩ := d_cmp (W := W) c (op := op) h1 (soundE a sc X W _ c tk h2).pe (soundE b sc X W _ c tk h3).pe
      exact ⟨q1, fun _ => q2, fun z => (by cases z), fun z => (by cases z)⟩
    · cases h
  | .chain op op2 a b cc, sc, X, W, e', c, tk, h => by
    unfold isE at h
    split at h
    · simp only [Bool.and_eq_true, decide_eq_true_eq] at h
      obtain ⟨⟨⟨⟨⟨rfl, rfl⟩, h1⟩, h2⟩, h3⟩, h4⟩ := h
      obtain ⟨q1, q2⟩ := d_chain (W := W) c (op := op) (op2 := op2) h1 (soundE a sc X W _ c tk h2).pe (soundE b sc X W _ c tk h3).pe (soundE cc sc X W _ c tk h4).pe
      exact ⟨q1, fun _ => q2, fun z => (by cases z), fun z => (by cases z)⟩
    · cases h
  | .and a b, sc, X, W, e', c, tk, h => by
    unfold isE at h
    split at h
    · rename_i a' b' r pos
      simp only [Bool.and_eq_true] at h
      obtain ⟨⟨⟨t1, t2⟩, h2⟩, h3⟩ := h
      have sa := soundE a sc X W _ c tk h2
      have sb : (∀ pk, PE X (.BoolOp .And (b' :: r) pos) (tE B G W pk b)) ∧ PW X (.BoolOp .And (b' :: r) pos) (tT B G W b) := by
        cases r with
        | nil =>
          have s := soundE b sc X W _ c tk h3
          exact ⟨fun pk => pe_one (s.pe pk), pw_and1 (s.pt t2)⟩
        | cons y r =>
          have s := soundE b sc X W _ c tk h3
          exact ⟨s.pe, s.pw rfl⟩
      have w := w_and (sa.pt t1) sb.2
      exact ⟨d_and sa.pe sb.1, fun _ => w.pt, fun _ => w, fun z => (by cases z)⟩
    · cases h
  | .or a b, sc, X, W, e', c, tk, h => by
    unfold isE at h
    split at h
    · rename_i a' b' r pos
      simp only [Bool.and_eq_true] at h
      obtain ⟨⟨⟨t1, t2⟩, h2⟩, h3⟩ := h
      have sa := soundE a sc X W _ c tk h2
      have sb : (∀ pk, PE X (.BoolOp .Or (b' :: r) pos) (tE B G W pk b)) ∧ PW X (.BoolOp .Or (b' :: r) pos) (tT B G W b) := by
        cases r with
        | nil =>
          have s := soundE b sc X W _ c tk h3
          exact ⟨fun pk => pe_one (s.pe pk), pw_or1 (s.pt t2)⟩
        | cons y r =>
          have s := soundE b sc X W _ c tk h3
          exact ⟨s.pe, s.pw rfl⟩
      have w := w_or (sa.pt t1) sb.2
      exact ⟨d_or sa.pe sb.1, fun _ => w.pt, fun _ => w, fun z => (by cases z)⟩
    · cases h
  | .not a, sc, X, W, e', c, tk, h => by
    unfold isE at h
    split at h
    · simp only [Bool.and_eq_true] at h
      have s := soundE a sc X W _ c tk h.2
      exact ⟨d_not s.pe, fun _ => t_not (s.pt h.1), fun z => (by cases z), fun z => (by cases z)⟩
    · cases h
  | .ife cc a b, sc, X, W, e', c, tk, h => by
    unfold isE at h
    split at h
    · simp only [Bool.and_eq_true] at h
      have s := soundE cc sc X W _ c tk h.1.1.2
      exact ⟨d_ife (s.pt h.1.1.1) (soundE a sc X W _ c tk h.1.2).pe (soundE b sc X W _ c tk h.2).pe, fun z => (by cases z), fun z => (by cases z), fun z => (by cases z)⟩
    · cases h
  | .tup es, sc, X, W, e', c, tk, h => by
    unfold isE at h
    split at h
    · exact .ofV (d_tup (soundEs es sc X W _ c tk h)) rfl rfl
    · cases h
  | .lst es, sc, X, W, e', c, tk, h => by
    unfold isE at h
    split at h
    · exact .ofF (d_lstF (soundEs es sc X W _ c tk h)) rfl (fun pk ρ rs => rfl)
    · cases h
  | .ix a b, sc, X, W, e', c, tk, h => by
    unfold isE at h
    split at h
    · simp only [Bool.and_eq_true] at h
      exact .ofV (d_ix c h.1.1 (soundE a sc X W _ c tk h.1.2).pe (soundE b sc X W _ c tk h.2).pe) rfl rfl
    · cases h
  | .sl a lo hi, sc, X, W, e', c, tk, h => by
    unfold isE at h
    split at h
    · simp only [Bool.and_eq_true] at h
      exact .ofF (d_slF c (soundE a sc X W _ c tk h.1.1).pe (soundO lo sc X W _ c tk h.1.2) (soundO hi sc X W _ c tk h.2)) rfl (fun pk ρ rs => rfl)
    · cases h
  | .call f es, sc, X, W, e', c, tk, h => by
    unfold isE at h
    split at h
    · simp only [Bool.and_eq_true, decide_eq_true_eq] at h
      obtain ⟨⟨⟨h1, h2⟩, h3⟩, h4⟩ := h
      exact .ofV (d_call c tk h1 h2 h3 h4 (soundEs es sc X W _ c tk h4)) rfl rfl
    · cases h
  | .bi b es, sc, X, W, e', c, tk, h => by
    unfold isE at h
    split at h
    · simp only [Bool.and_eq_true, decide_eq_true_eq] at h
      obtain ⟨⟨⟨h1, h2⟩, h3⟩, h4⟩ := h
      exact .ofF (d_biF c h1 h2 h3 h4 (soundEs es sc X W _ c tk h4)) rfl (fun pk ρ rs => rfl)
    · cases h
  | .comp el xs it cs, sc, X, W, e', c, tk, h => by
    unfold isE at h
    split at h
    · rename_i el' tg iter ifs scope pos
      simp only [Bool.and_eq_true] at h
      obtain ⟨⟨⟨⟨⟨h1, h2⟩, h3⟩, h4⟩, h5⟩, h6⟩ := h
      refine .ofF (d_compF c h1 h2 h6 (soundIt it sc X W _ _ true c tk h3) (fun X' c' => soundC cs _ X' WF _ c' takesWF (by exact h4)) (fun X' c' => (soundE el _ X' WF _ c' takesWF h5).pe)) rfl (fun pk ρ rs => rfl)
    · cases h
  | .slr a, sc, X, W, e', c, tk, h => by
    unfold isE at h
    split at h
    · simp only [Bool.and_eq_true, decide_eq_true_eq] at h
      obtain ⟨rfl, h⟩ := h
      exact .ofF (d_slrF c (soundE a sc X W _ c tk h).pe) rfl (fun pk ρ rs => rfl)
    · cases h
  | .absent, _, _, _, _, _, _, h => by unfold isE at h; cases h
  | .isi a ts, sc, X, W, e', c, tk, h => by
    unfold isE at h
    split at h
    · simp only [Bool.and_eq_true, decide_eq_true_eq] at h
      obtain ⟨⟨⟨⟨⟨rfl, h1⟩, h2⟩, h3⟩, h4⟩, h5⟩ := h
      exact .ofV (d_isi1 c h1 h2 h3 h4 (soundE a sc X W _ c tk h5).pe) rfl rfl
    · simp only [Bool.and_eq_true, decide_eq_true_eq] at h
      obtain ⟨⟨⟨⟨⟨⟨⟨rfl, h1⟩, h2⟩, h3⟩, h4⟩, h5⟩, h6⟩, h7⟩ := h
      exact .ofV (d_isi2 c h1 h2 h3 h4 h5 h6 (soundE a sc X W _ c tk h7).pe) rfl rfl
    · cases h
  | .comp2 .., _, _, _, _, _, _, h => by unfold isE at h; cases h
  | .join .., _, _, _, _, _, _, h => by unfold isE at h; cases h
  | .find .., _, _, _, _, _, _, h => by unfold isE at h; cases h
  | .rpop o i, sc, X, W, e', c, tk, h => by
    unfold isE at h
    split at h
    · simp only [Bool.and_eq_true, decide_eq_true_eq] at h
      obtain ⟨⟨⟨⟨rfl, h1⟩, h2⟩, h3⟩, h4⟩ := h
      exact .ofV (d_rpop c h1 h2 (soundE o sc X W _ c tk h3).pe (soundE i sc X W _ c tk h4).pe) rfl rfl
    · cases h
  | .fld o cc f, sc, X, W, e', c, tk, h => by
    unfold isE at h
    split at h
    · simp only [Bool.and_eq_true, decide_eq_true_eq] at h
      exact .ofV (d_fld c h.1.1 h.1.2 (soundE o sc X W _ c tk h.2).pe) rfl rfl
    · cases h
  | .meth cc f o es, sc, X, W, e', c, tk, h => by
    unfold isE at h
    split at h
    · simp only [Bool.and_eq_true, decide_eq_true_eq] at h
      obtain ⟨⟨⟨⟨⟨⟨h1, h2⟩, h3⟩, h4⟩, h5⟩, h6⟩, h7⟩ := h
      exact .ofV (d_meth c tk h1 h2 h3 h4 h5 h7 (soundE o sc X W _ c tk h6).pe (soundEs es sc X W _ c tk h7)) rfl rfl
    · cases h
  | .make cc f es, sc, X, W, e', c, tk, h => by
    unfold isE at h
    split at h
    · simp only [Bool.and_eq_true, decide_eq_true_eq] at h
      obtain ⟨⟨⟨⟨h1, h2⟩, h3⟩, h4⟩, h5⟩ := h
      exact .ofV (d_make c tk h1 h2 h3 h4 h5 (soundEs es sc X W _ c tk h5)) rfl rfl
    · cases h
  | .oeq cc f a b, sc, X, W, e', c, tk, h => by
    unfold isE at h
    split at h
    · simp only [Bool.and_eq_true, decide_eq_true_eq] at h
      obtain ⟨⟨⟨⟨h1, h2⟩, h3⟩, h4⟩, h5⟩ := h
      exact ⟨(d_oeq c h1 h2 h3 (soundE a sc X W _ c tk h4).pe (soundE b sc X W _ c tk h5).pe).1, fun _ => (d_oeq c h1 h2 h3 (soundE a sc X W _ c tk h4).pe (soundE b sc X W _ c tk h5).pe).2, fun z => (by cases z), fun z => (by cases z)⟩
    · cases h
  | .ostr cc f a, sc, X, W, e', c, tk, h => by
    unfold isE at h
    split at h
    · simp only [Bool.and_eq_true, decide_eq_true_eq] at h
      obtain ⟨⟨⟨⟨⟨rfl, h1⟩, h2⟩, h3⟩, h4⟩, h5⟩ := h
      exact .ofV (d_ostr c h1 h2 h3 h4 (soundE a sc X W _ c tk h5).pe) rfl rfl
    · cases h
  | .isc a cc, sc, X, W, e', c, tk, h => by
    unfold isE at h
    split at h
    · simp only [Bool.and_eq_true, decide_eq_true_eq] at h
      obtain ⟨⟨⟨⟨⟨⟨rfl, h1⟩, h2⟩, h3⟩, h4⟩, h5⟩, h6⟩ := h
      exact .ofV (d_isc c h1 h2 h3 h4 h5 (soundE a sc X W _ c tk h6).pe) rfl rfl
    · cases h
  | .dnew t, sc, X, W, e', c, tk, h => by
    unfold isE at h
    split at h
    · exact .ofF (d_dnewF t) rfl (fun pk ρ rs => rfl)
    · cases h
  | .ddisp kx vx, sc, X, W, e', c, tk, h => by
    unfold isE at h
    split at h
    · simp only [Bool.and_eq_true] at h
      exact .ofF (d_ddispF c (soundE kx sc X W _ c tk h.1).pe (soundE vx sc X W _ c tk h.2).pe) rfl (fun pk ρ rs => rfl)
    · cases h
  | .compK el xs i cs, sc, X, W, e', c, tk, h => by
    unfold isE at h
    split at h
    · simp only [Bool.and_eq_true, decide_eq_true_eq] at h
      obtain ⟨⟨⟨⟨⟨⟨h1, h2⟩, h3⟩, h4⟩, h5⟩, h6⟩, h7⟩ := h
      refine .ofF (d_compK c h1 h2 h3 h4 h5 (fun X' c' => soundC cs _ X' WF _ c' takesWF (by exact h6)) (fun X' c' => (soundE el _ X' WF _ c' takesWF h7).pe)) rfl (fun pk ρ rs => rfl)
    · cases h
theorem soundEs {T : Tab} {B : Bd} {G : Cfg} {k : Nat} {N : List Str} : ∀ (es : Es) (sc : Scope) (X : Cx) (W : WX) (es' : List Expr), CxOk T B G k N sc X → Takes X W → isEs T N sc es es' = true → ∀ pk, PA X es' (tAr B G W pk es)
  | .nil, sc, X, W, es', c, tk, h => by
    unfold isEs at h
    split at h
    · exact pa_nilM
    · cases h
  | .cons e r, sc, X, W, es', c, tk, h => by
    unfold isEs at h
    split at h
    · simp only [Bool.and_eq_true] at h
      exact pa_consM h.1.1 (soundE e sc X W _ c tk h.1.2).pe (soundEs r sc X W _ c tk h.2)
    · cases h
theorem soundO {T : Tab} {B : Bd} {G : Cfg} {k : Nat} {N : List Str} : ∀ (e : E) (sc : Scope) (X : Cx) (W : WX) (e' : Option Expr), CxOk T B G k N sc X → Takes X W → (match e' with | none => isAbs e | some e' => isE T N sc e e') = true → PO X e' (tO B G W e)
  | e, sc, X, W, e', c, tk, h => by
    cases e' with
    | none =>
      cases e <;> first | exact o_abs | cases h
    | some e' =>
      refine o_some ?_ (soundE e sc X W _ c tk h).pe
      cases e <;> first | rfl | (exfalso; dsimp only at h; unfold isE at h; cases h; done)
theorem soundC {T : Tab} {B : Bd} {G : Cfg} {k : Nat} {N : List Str} : ∀ (cs : Es) (sc : Scope) (X : Cx) (W : WX) (ifs : List Expr), CxOk T B G k N sc X → Takes X W → (match cs, ifs with | .nil, [] => true | .cons c .nil, [c'] => tOk c' && isE T N sc c c' | _, _ => false) = true → PTs X ifs (tCs B G W cs)
  | .nil, sc, X, W, ifs, c, tk, h => by
    cases ifs with
    | nil => exact cs_nil
    | cons y r => cases h
  | .cons e r, sc, X, W, ifs, c, tk, h => by
    cases r with
    | cons y r => cases ifs <;> cases h
    | nil =>
      match ifs, h with
      | [c'], h =>
        rw [Bool.and_eq_true] at h
        exact cs_one ((soundE e sc X W _ c tk h.2).pt h.1)
theorem soundIt {T : Tab} {B : Bd} {G : Cfg} {k : Nat} {N : List Str} : ∀ (it : It) (sc : Scope) (X : Cx) (W : WX) (tg e' : Expr) (pk : Bool), CxOk T B G k N sc X → Takes X W → isIt T N sc it e' = true → PI X tg e' (tIt B G W pk it)
  | .rng1 a, sc, X, W, tg, e', pk, c, tk, h => by
    unfold isIt at h
    split at h
    · simp only [Bool.and_eq_true, decide_eq_true_eq] at h
      obtain ⟨⟨⟨rfl, h1⟩, h2⟩, h3⟩ := h
      exact d_rng1 c h1 h2 (soundE a sc X W _ c tk h3).pe
    · cases h
  | .rng2 a b, sc, X, W, tg, e', pk, c, tk, h => by
    unfold isIt at h
    split at h
    · simp only [Bool.and_eq_true, decide_eq_true_eq] at h
      obtain ⟨⟨⟨⟨⟨rfl, h1⟩, h2⟩, h3⟩, h4⟩, h5⟩ := h
      exact d_rng2 c h1 h2 h3 (soundE a sc X W _ c tk h4).pe (soundE b sc X W _ c tk h5).pe
    · cases h
  | .rng3 a b e, sc, X, W, tg, e', pk, c, tk, h => by
    unfold isIt at h
    split at h
    · simp only [Bool.and_eq_true, decide_eq_true_eq] at h
      obtain ⟨⟨⟨⟨⟨⟨⟨rfl, h1⟩, h2⟩, h3⟩, h4⟩, h5⟩, h6⟩, h7⟩ := h
      exact d_rng3 c h1 h2 h3 h4 (soundE a sc X W _ c tk h5).pe (soundE b sc X W _ c tk h6).pe (soundE e sc X W _ c tk h7).pe
    · cases h
  | .seq a, sc, X, W, tg, e', pk, c, tk, h => by
    unfold isIt at h
    exact d_seqI c (soundE a sc X W _ c tk h).pe
end
end Mp

set_option Elab.async false
set_option linter.all false
set_option maxRecDepth 100000
set_option maxHeartbeats 4000000
/-! Mp, part 17: statements: what is wanted, the parts. -/
namespace Mp
open PySem PySem.Spec L2
def cW (Wx : XK) : WX := fun cls dd _ H' => Wx cls dd H'
def OutOk (B : Bd) (sa : Addr) (Hs0 H0 : Hp) (rs0 : Rg) (D : Ends) : Out → Hp → Hp → Rg → Prop
  | .nx ρ, Hs, H, rs => ∀ σ, SR B sa Hs0 H0 rs0 Hs H rs ρ σ → D.nx σ H
  | .bk ρ, Hs, H, rs => ∀ σ, SR B sa Hs0 H0 rs0 Hs H rs ρ σ → D.bk σ H
  | .ct ρ, Hs, H, rs => ∀ σ, SR B sa Hs0 H0 rs0 Hs H rs ρ σ → D.ct σ H
  | .ret d, Hs, H, _ => ∀ v, Rp B.K B.cn sa Hs d v → D.rt v H
def tSO (B : Bd) (Wx : XK) (f : Env → M Out) : TS := fun D σ H => ∃ sa Hs0 H0 rs0 Hs rs ρ, SR B sa Hs0 H0 rs0 Hs H rs ρ σ ∧ Post B sa Wx Hs0 H0 rs0 (f ρ rs) (OutOk B sa Hs0 H0 rs0 D)
abbrev tS (B : Bd) (G : Cfg) (Wx : XK) (s : S) : TS := tSO B Wx (execS G s)
abbrev tSs (B : Bd) (G : Cfg) (Wx : XK) (s : Ss) : TS := tSO B Wx (execSs G s)
section
variable {α β : Type} {B : Bd} {sa : Addr} {W : XK} {Hs H Hs1 H1 : Hp} {rs rs1 rs' : Rg}
theorem Post.bindR {m : M α} {f : α → M β} {Q : β → Hp → Hp → Rg → Prop} (h : Post B sa W Hs H rs (M.bind m f rs') Q) : Post B sa W Hs H rs (m rs') (fun a Hs2 H2 rs2 => Post B sa W Hs H rs (f a rs2) Q) := by
  unfold M.bind at h
  cases er : m rs' with
  | ok a rs2 => rw [er] at h; exact fun Hs2 H2 e2 => h
  | exc c d rs2 => rw [er] at h; exact h
  | stuck => rw [er] at h; exact h.elim
theorem Post.bindC {m : M α} {f : α → M β} {Q : β → Hp → Hp → Rg → Prop} (h : Post B sa W Hs H rs (M.bind m f rs') Q) (e : Ext B sa Hs H rs Hs1 H1 rs1) : Post B sa W Hs1 H1 rs1 (m rs') (fun a Hs2 H2 rs2 => Post B sa W Hs H rs (f a rs2) Q) := by
  unfold M.bind at h
  cases er : m rs' with
  | ok a rs2 => rw [er] at h; exact fun Hs2 H2 e2 => h
  | exc c d rs2 => rw [er] at h; exact fun Hs2 H2 cls dd e2 x => h Hs2 H2 cls dd (e.trans e2) x
  | stuck => rw [er] at h; exact h.elim
end
section
variable {B : Bd} {G : Cfg} {Wx : XK} {sa : Addr} {Hs0 H0 Hs H : Hp} {rs0 rs : Rg} {ρ : Env} {σ : L2.St} {β : Type}
/-- the part e of a statement -/
theorem toES {pk : Bool} {e : E} {f : D → M β} {Q : β → Hp → Hp → Rg → Prop} {R : VK} (sr : SR B sa Hs0 H0 rs0 Hs H rs ρ σ)
    (h : Post B sa Wx Hs0 H0 rs0 (M.bind (evalE G pk e ρ) f rs) Q)
    (k : ∀ d Hs1 H1 rs1 v, Ext B sa Hs H rs Hs1 H1 rs1 → SR B sa Hs0 H0 rs0 Hs1 H1 rs1 ρ σ → RpB B sa pk Hs1 H1 d v → Post B sa Wx Hs0 H0 rs0 (f d rs1) Q → R v H1) : tE B G (cW Wx) pk e σ H R :=
  ⟨sa, Hs0, H0, rs0, Hs, rs, ρ, sr, Post.mono (Post.bindC h sr.ext) fun d Hs1 H1 rs1 e' p v r => k d Hs1 H1 rs1 v e' (sr.mono e') r p⟩
theorem toFS {e : E} {f : D → M β} {Q : β → Hp → Hp → Rg → Prop} {R : VK} (sr : SR B sa Hs0 H0 rs0 Hs H rs ρ σ)
    (h : Post B sa Wx Hs0 H0 rs0 (M.bind (evalE G false e ρ) f rs) Q)
    (k : ∀ d Hs1 H1 rs1 v, Ext B sa Hs H rs Hs1 H1 rs1 → SR B sa Hs0 H0 rs0 Hs1 H1 rs1 ρ σ → RpF B sa H Hs1 H1 d v → Post B sa Wx Hs0 H0 rs0 (f d rs1) Q → R v H1) : tF B G (cW Wx) e σ H R :=
  ⟨sa, Hs0, H0, rs0, Hs, rs, ρ, sr, Post.mono (Post.bindC h sr.ext) fun d Hs1 H1 rs1 e' p v r => k d Hs1 H1 rs1 v e' (sr.mono e') r p⟩
theorem toTS {e : E} {f : D → M β} {Q : β → Hp → Hp → Rg → Prop} {R : Bool → Hp → Prop} (sr : SR B sa Hs0 H0 rs0 Hs H rs ρ σ)
    (h : Post B sa Wx Hs0 H0 rs0 (M.bind (evalE G true e ρ) f rs) Q)
    (k : ∀ d Hs1 H1 rs1, SR B sa Hs0 H0 rs0 Hs1 H1 rs1 ρ σ → Post B sa Wx Hs0 H0 rs0 (f d rs1) Q → ∃ b, d = .bl b ∧ R b H1) : tT B G (cW Wx) e σ H R :=
  ⟨sa, Hs0, H0, rs0, Hs, rs, ρ, sr, Post.mono (Post.bindC h sr.ext) fun d Hs1 H1 rs1 e' p => k d Hs1 H1 rs1 (sr.mono e') p⟩
theorem Post.ok' {a : β} {Q : β → Hp → Hp → Rg → Prop} (h : Post B sa Wx Hs0 H0 rs0 (M.ok a rs) Q) (e : Ext B sa Hs0 H0 rs0 Hs H rs) : Q a Hs H rs := h Hs H e
/-- an own slot is written -/
theorem SR.ownUpd (r : SR B sa Hs0 H0 rs0 Hs H rs ρ σ) {i : Nat} {s s' : SV} {a : Addr} {o : HO} (hi : ρ[i]? = some (some s)) (os : s.isOwn = true) (hv : σ[i]? = some (some (.ref a))) (h0 : H0 a = none) (hs : Hs a = none) (os' : s'.isOwn = true)
    (h' : OwnAt B sa Hs (upd H a o) a s') : SR B sa Hs0 H0 rs0 Hs (upd H a o) rs (ρ.set i (some s')) σ := by
  have na : a ≠ sa := fun z => r.sne (z ▸ h0)
  have hlt : i < ρ.length := (List.getElem?_eq_some_iff.mp hi).1
  refine ⟨r.sne, r.ext.own h0 hs na, by simp [r.len], fun j t e => ?_, fun j l t u v e1 e2 o1 o2 v1 v2 => ?_⟩
  · by_cases hj : i = j
    · subst hj
      rw [List.getElem?_set_self hlt] at e
      cases e
      refine ⟨.ref a, hv, ?_⟩
      cases s' with
      | d x => cases os'
      | ol xs => exact ⟨a, rfl, h0, h'⟩
      | od t ks vs => exact ⟨a, rfl, h0, h'⟩
    · rw [List.getElem?_set_ne hj] at e
      obtain ⟨w, h1, h2⟩ := r.slot j t e
      refine ⟨w, h1, ?_⟩
      have far : ∀ b, w = .ref b → t.isOwn = true → b ≠ a := fun b eb ot z => hj (r.apart i j s t (.ref a) hi e os ot hv (by rw [h1, eb, z]))
      cases t with
      | d x => exact h2
      | ol xs =>
        obtain ⟨b, q1, q2, q3, vs, q4, q5⟩ := h2
        exact ⟨b, q1, q2, q3, vs, by rw [upd_ne (far b q1 rfl)]; exact q4, q5⟩
      | od t ks ds =>
        cases t with
        | false =>
          obtain ⟨b, q1, q2, q3, kk, vs, q4, q5⟩ := h2
          exact ⟨b, q1, q2, q3, kk, vs, by rw [upd_ne (far b q1 rfl)]; exact q4, q5⟩
        | true =>
          obtain ⟨b, q1, q2, q3, kk, vs, q4, q5⟩ := h2
          exact ⟨b, q1, q2, q3, kk, vs, by rw [upd_ne (far b q1 rfl)]; exact q4, q5⟩
  · have tr : ∀ (j : Nat) (t : SV), (ρ.set i (some s'))[j]? = some (some t) → t.isOwn = true → ∃ t', ρ[j]? = some (some t') ∧ t'.isOwn = true := fun j t e ot => by
      by_cases hj : i = j
      · subst hj; exact ⟨s, hi, os⟩
      · rw [List.getElem?_set_ne hj] at e; exact ⟨t, e, ot⟩
    obtain ⟨t', p1, p2⟩ := tr j t e1 o1
    obtain ⟨u', p3, p4⟩ := tr l u e2 o2
    exact r.apart j l t' u' v p1 p3 p2 p4 v1 v2
/-- a fresh own thing comes into a slot -/
theorem SR.own (r : SR B sa Hs0 H0 rs0 Hs H rs ρ σ) {i : Nat} {s : SV} {a : Addr} (h0 : H0 a = none) (os : s.isOwn = true) (ho : OwnAt B sa Hs H a s) (far : ∀ (j : Nat) t, ρ[j]? = some (some t) → t.isOwn = true → σ[j]? ≠ some (some (.ref a))) :
    SR B sa Hs0 H0 rs0 Hs H rs (ρ.set i (some s)) (σ.set i (some (.ref a))) := by
  refine ⟨r.sne, r.ext, by simp [r.len], fun j t e => ?_, fun j l t u v e1 e2 o1 o2 v1 v2 => ?_⟩
  · by_cases hj : i = j
    · subst hj
      have hlt : i < ρ.length := by
        have := (List.getElem?_eq_some_iff.mp e).1
        simpa using this
      rw [List.getElem?_set_self hlt] at e
      cases e
      refine ⟨.ref a, by rw [List.getElem?_set_self (by rw [← r.len]; exact hlt)], ?_⟩
      cases s with
      | d x => cases os
      | ol xs => exact ⟨a, rfl, h0, ho⟩
      | od t ks vs => exact ⟨a, rfl, h0, ho⟩
    · rw [List.getElem?_set_ne hj] at e
      obtain ⟨w, h1, h2⟩ := r.slot j t e
      exact ⟨w, by rw [List.getElem?_set_ne hj]; exact h1, h2⟩
  · by_cases hj : i = j
    · by_cases hl : i = l
      · rw [← hj, ← hl]
      · exfalso
        subst hj
        rw [List.getElem?_set_ne hl] at e2 v2
        have hlt : i < σ.length := by
          have := (List.getElem?_eq_some_iff.mp v1).1
          simpa using this
        rw [List.getElem?_set_self hlt] at v1
        cases v1
        exact far l u e2 o2 v2
    · by_cases hl : i = l
      · exfalso
        subst hl
        rw [List.getElem?_set_ne hj] at e1 v1
        have hlt : i < σ.length := by
          have := (List.getElem?_eq_some_iff.mp v2).1
          simpa using this
        rw [List.getElem?_set_self hlt] at v2
        cases v2
        exact far j t e1 o1 v1
      · rw [List.getElem?_set_ne hj] at e1 v1
        rw [List.getElem?_set_ne hl] at e2 v2
        exact r.apart j l t u v e1 e2 o1 o2 v1 v2
theorem SR.far (r : SR B sa Hs0 H0 rs0 Hs H rs ρ σ) {a : Addr} (ha : H a = none) : ∀ (j : Nat) t, ρ[j]? = some (some t) → t.isOwn = true → σ[j]? ≠ some (some (.ref a)) := fun j t e o z => by
  obtain ⟨v, h1, h2⟩ := r.slot j t e
  rw [z] at h1
  cases h1
  cases t with
  | d x => cases o
  | ol xs => obtain ⟨b, q1, _, q3⟩ := h2; cases q1; exact q3.ne.2 ha
  | od t ks vs => obtain ⟨b, q1, _, q3⟩ := h2; cases q1; exact q3.ne.2 ha
/-- an own thing is frozen -/
theorem SR.frz (r : SR B sa Hs0 H0 rs0 Hs H rs ρ σ) {i : Nat} {s : SV} (hi : ρ[i]? = some (some s)) (os : s.isOwn = true) :
    ∃ Hs', SR B sa Hs0 H0 rs0 Hs' H rs (ρ.set i (some (.d (svD s)))) σ := by
  obtain ⟨v, h1, h2⟩ := r.slot i s hi
  have hlt : i < ρ.length := (List.getElem?_eq_some_iff.mp hi).1
  have ex : ∃ a o, v = .ref a ∧ H0 a = none ∧ Hs a = none ∧ H a = some o ∧ ∀ Hs', Same Hs Hs' → Hs' a = some o → Rp B.K B.cn sa Hs' (svD s) (.ref a) := by
    cases s with
    | d x => cases os
    | ol xs =>
      obtain ⟨a, q1, q2, q3, vs, q4, q5⟩ := h2
      exact ⟨a, _, q1, q2, q3, q4, fun Hs' e z => ⟨a, vs, rfl, z, Rps.mono e _ _ q5⟩⟩
    | od t ks ds =>
      cases t with
      | false =>
        obtain ⟨a, q1, q2, q3, kk, vs, q4, q5, q6, q7⟩ := h2
        exact ⟨a, _, q1, q2, q3, q4, fun Hs' e z => ⟨a, kk, vs, rfl, z, q5, q6, Rps.mono e _ _ q7⟩⟩
      | true =>
        obtain ⟨a, q1, q2, q3, kk, vs, q4, q5, q6, q7⟩ := h2
        exact ⟨a, _, q1, q2, q3, q4, fun Hs' e z => ⟨a, kk, vs, rfl, z, q5, q6, Rps.mono e _ _ q7⟩⟩
  obtain ⟨a, o, rfl, h0, hs, ho, mk⟩ := ex
  have na : a ≠ sa := fun z => r.sne (z ▸ h0)
  have ss : Same Hs (upd Hs a o) := fun b u e => by rw [upd_ne (ne_of_none e hs)]; exact e
  refine ⟨upd Hs a o, r.sne, ⟨r.wd.share ho hs na, r.ext.ss.trans ss, r.ext.keep, fun b u h q n => ?_, r.ext.som⟩, by simp [r.len], fun j t e => ?_, fun j l t u v e1 e2 o1 o2 v1 v2 => ?_⟩
  · have hb : b ≠ a := ne_of_none q h0
    rw [upd_ne hb]; exact r.ext.new b u h q n
  · by_cases hj : i = j
    · subst hj
      rw [List.getElem?_set_self hlt] at e
      cases e
      exact ⟨.ref a, h1, mk _ ss upd_same⟩
    · rw [List.getElem?_set_ne hj] at e
      obtain ⟨w, p1, p2⟩ := r.slot j t e
      refine ⟨w, p1, ?_⟩
      have far : ∀ b, w = .ref b → t.isOwn = true → b ≠ a := fun b eb ot z => hj (r.apart i j s t (.ref a) hi e os ot h1 (by rw [p1, eb, z]))
      cases t with
      | d x => exact Rp.mono ss _ _ p2
      | ol xs =>
        obtain ⟨b, q1, q2, q3, vs, q4, q5⟩ := p2
        exact ⟨b, q1, q2, by rw [upd_ne (far b q1 rfl)]; exact q3, vs, q4, Rps.mono ss _ _ q5⟩
      | od t ks ds =>
        cases t with
        | false =>
          obtain ⟨b, q1, q2, q3, kk, vs, q4, q5, q6, q7⟩ := p2
          exact ⟨b, q1, q2, by rw [upd_ne (far b q1 rfl)]; exact q3, kk, vs, q4, q5, q6, Rps.mono ss _ _ q7⟩
        | true =>
          obtain ⟨b, q1, q2, q3, kk, vs, q4, q5, q6, q7⟩ := p2
          exact ⟨b, q1, q2, by rw [upd_ne (far b q1 rfl)]; exact q3, kk, vs, q4, q5, q6, Rps.mono ss _ _ q7⟩
  · have tr : ∀ (j : Nat) (t : SV), (ρ.set i (some (.d (svD s))))[j]? = some (some t) → t.isOwn = true → ρ[j]? = some (some t) := fun j t e ot => by
      by_cases hj : i = j
      · subst hj; rw [List.getElem?_set_self hlt] at e; cases e; cases ot
      · rw [List.getElem?_set_ne hj] at e; exact e
    exact r.apart j l t u v (tr j t e1 o1) (tr l u e2 o2) o1 o2 v1 v2
/-- the register is written -/
theorem SR.regUpd (r : SR B sa Hs0 H0 rs0 Hs H rs ρ σ) {l l' : List D} {vs' : List V} (hr : rs = some l) (h' : Rps B.K B.cn sa Hs l' vs') : SR B sa Hs0 H0 rs0 Hs (upd H sa (.lst vs')) (some l') ρ σ := by
  subst hr
  have r0 : rs0 ≠ none := fun z => by have := r.ext.som.mp z; cases this
  obtain ⟨h1, vs, h2, h3⟩ := r.wd.reg l rfl
  refine ⟨r.sne, ⟨⟨fun b u q => ?_, by rw [upd_same]; simp, fun xs e => ?_⟩, r.ext.ss, fun b u c q => ?_, r.ext.new, ⟨fun z => absurd z r0, fun z => by cases z⟩⟩, r.len, fun j t e => ?_, r.apart⟩
  · have hb : b ≠ sa := ne_of_none q h1
    rw [upd_ne hb]; exact r.wd.sub b u q
  · cases e
    exact ⟨h1, vs', upd_same, h'⟩
  · have hb : b ≠ sa := by
      rcases c with c | c
      · exact c
      · exact absurd c r0
    rw [upd_ne hb]; exact r.ext.keep b u (.inl hb) q
  · obtain ⟨w, p1, p2⟩ := r.slot j t e
    refine ⟨w, p1, ?_⟩
    have far : ∀ b, H0 b = none → b ≠ sa := fun b hb z => r.sne (z ▸ hb)
    cases t with
    | d x => exact p2
    | ol xs =>
      obtain ⟨b, q1, q2, q3, vs, q4, q5⟩ := p2
      exact ⟨b, q1, q2, q3, vs, by rw [upd_ne (far b q2)]; exact q4, q5⟩
    | od t ks ds =>
      cases t with
      | false =>
        obtain ⟨b, q1, q2, q3, kk, vs, q4, q5⟩ := p2
        exact ⟨b, q1, q2, q3, kk, vs, by rw [upd_ne (far b q2)]; exact q4, q5⟩
      | true =>
        obtain ⟨b, q1, q2, q3, kk, vs, q4, q5⟩ := p2
        exact ⟨b, q1, q2, q3, kk, vs, by rw [upd_ne (far b q2)]; exact q4, q5⟩
end
end Mp

set_option Elab.async false
set_option linter.all false
set_option maxRecDepth 100000
set_option maxHeartbeats 4000000
/-! Mp, part 18.2: own errors: an __init__ over ValueError that says super().__init__(..) and then puts one field. -/
namespace Mp
open PySem PySem.W PySem.Calls PyProof.Rows PySem.HandSPX
/-- what super().__init__ is told: the parameter itself, or a text -/
inductive SupA where
  | par | txt (t : Str)
def supE (y : Str) (p : Pos) (j : Nat) : SupA → Expr
  | .par => .Name y p
  | .txt t => .Constant (.str t) j p
/-- the text of the __init__ -/
def FltBody (y f : Str) (a : SupA) (b : List Stmt) : Prop := ∃ p0 p1 p2 p3 p4 p5 q1 q2 q3 q4 j, (p2.endLine == p3.line) = true ∧ b =
  [.Expr (.Call (.Attribute (.Call (.Name "super" p0) [] [] p1) "__init__" p2) [supE y p5 j a] [] p3) p4, .Assign [.Attribute (.Name "self" q1) f q2] (.Name y q3) q4]
structure FltC (P : Program) (K : Frag) (mg : Str → Option Value) (C : Addr) (x f : Str) : Prop where
  gC : mg x = some (.ref C)
  kC : keepIn K (.ref C) = true
  exC : subIn K (.ref C) (.type "BaseException") = some true
  tyC : typeIn K (.ref C) = some (.type "type")
  hdC : hasDictIn K C = true
  cls : ∃ nm q N bs bm sn sub ab col dd k0 k1 k2 k3 k5, K.lookup C = some (excClassObj nm q C N bs bm true sn sub ab col dd k0 k1 k2 k3 k5 "ValueError.__new__") ∧ refsVE bm = true
  sa : findIn K (.ref C) "__setattr__" = some (some (.builtin "object.__setattr__"))
  ga : findIn K (.ref C) "__getattribute__" = some (some (.builtin "BaseException.__getattribute__"))
  gg : findIn K (.ref C) "__getattr__" = some none
  noN : findIn K (.ref C) f = some none
  opq : nsIn K cStatics "thirdparty.any" = some none
  sup : ks_superIn K C C "__init__" = some (some (.builtin "ValueError.__init__"))
  suB : subIn K (.ref C) (.type "ValueError") = some true
  mro : mroIn K C (.ref C) = some true
  gS : mg "super" = none
  tS : (P.main.scope.names.lookup ("super" : Str)).isSome = false
  fn : ∃ (fI cc cda : Addr) (y : Str) (a : SupA) (oc : Value) (od : Option Addr) (doc pm : Value) (an : Option Addr) (ct : Value) (osl : Array (Option Value)) (qual : Str) (pr : Arguments) (body : List Stmt) (sc : Scope),
    findIn K (.ref C) "__init__" = some (some (.ref fI)) ∧ typeIn K (.ref fI) = some (.type "function") ∧
    K.lookup fI = some ⟨oc, od, .func (ksFn "__init__" qual pr body sc .none .none doc pm an (.ref cda) ct cc), osl⟩ ∧ codeIn K (.ref cda) qual = true ∧ FltBody y f a body ∧
    (∃ vs ccl cdd ccs file tf, K.lookup cda = some ⟨ccl, cdd, .fields vs, ccs⟩ ∧ vs[2]? = some (.str file tf) ∧ (P.main.file == file) = true) ∧
    (∃ cl cld csl, K.lookup cc = some ⟨cl, cld, .cell (some (.ref C)), csl⟩) ∧
    (∃ ar, (pr.posonlyargs ++ pr.args).head? = some ar ∧ ar.arg = "self") ∧
    (∀ s u v, BindsTo s (ksFn "__init__" qual pr body sc .none .none doc pm an (.ref cda) ct cc) ⟨[u, v], []⟩ [("self", u), (y, v)]) ∧
    (∀ z ∈ sc.names, z.2 ≠ .cell) ∧ sc.names.lookup ("self" : Str) = some .local ∧ sc.names.lookup y = some .local ∧ sc.names.lookup ("super" : Str) = some .globalImplicit ∧ sc.names.lookup ("__class__" : Str) = some .free ∧
    sc.isCoroutine = false ∧ sc.isGenerator = false ∧ sc.kind = .function ∧ y ≠ "self" ∧ (y == ("__debug__" : Str)) = false
section
variable {P : Program} {w : World} {A : Around} {R : Result → Shared → Prop} {K : Frag} {C x : Addr}
/-- the wrapper of ValueError.__init__ at u, bound to the error at e, is called -/
theorem mw_call {E : Value → Shared → Prop} {hp : Heap} {g : Array GenState} {d : Drawn} {t : Nat} {os : OsState} {nm q : Str} {N : Addr} {bs bm : List Value} {hdct : Bool} {sn : List Str} {sub : List Value} {ab : Bool} {col : Option Bool} {dd : Option Addr} {k0 k1 k2 k3 k5 : Option Value}
    {u e t0 : Addr} {rest : List Value} {Q : Value → Shared → Prop} (hC : hp.get? C = some (excClassObj nm q C N bs bm hdct sn sub ab col dd k0 k1 k2 k3 k5 "ValueError.__new__")) (he : hp.get? e = some (excO C t0)) (hu : hp.get? u = some (kxs_mw "ValueError.__init__" e))
    (hr : rest.length ≤ sizeLine) (hq : ∀ h' t1, (∀ b o, b ≠ e → hp.get? b = some o → h'.get? b = some o) → h'.get? e = some (excO C t1) → Q .none ⟨h', g, d, t, os⟩) :
    wpAny (model P w) A (call (.ref u) rest) Q E ⟨hp, g, d, t, os⟩ := by
  refine wpAny_call (codeAny_of_tree ?_)
  show wpAny _ A.in1 (callAny (.ref u) ⟨rest, []⟩) _ _ _
  unfold callAny
  refine wpAny_bind (wpAny_load hu ?_)
  have c1 : (Value.type "method-wrapper" == Value.type "method" || Value.type "method-wrapper" == Value.type "builtin_function_or_method" || Value.type "method-wrapper" == Value.type "method-wrapper") = true := by decide
  simp only [kxs_mw, c1, if_true]
  refine KFB.if_so (by decide) ?_
  refine wpAny_bind (check_bound_init F.excBase_ValueError.toExcCallFacts hC he rfl ?_)
  refine wpAny_bind (wpAny_pure (wpAny_pure ?_))
  refine ⟨plainId_quiet F.excBase_ValueError.init.plain _, codeAny_builtin F.excBase_ValueError.initEntry ?_⟩
  exact exc_init_tree (cls := .ref C) (t0 := t0) (dv := none) (c2 := .none) (c3 := .none) (b4 := .bool false) he hr fun h' kp e' _ => hq h' _ kp e'
/-- what an __init__ leaves of a fresh error at x -/
structure FltEnd (h h' : Heap) (x C dx : Addr) (f : Str) (v : Value) : Prop where
  keep : ∀ b o, b ≠ x → h.get? b = some o → h'.get? b = some o
  obj : ∃ t1 : Addr, h'.get? x = some ({ cls := .ref C, dict := some dx, data := .fields #[.ref t1, .none, .none, .none, .bool false, .none] } : Obj)
  big : h.objs.size ≤ dx
  ne : dx ≠ x
  ns : h'.Ns1 dx (fun z => if z = f then some v else none)
theorem sup_form {o : Expr} {nm : Str} {args : List Expr} {env : PySem.Env} {apos pos : Pos} (hf : methodCallForm args.length (backTo pos (starEach args env)) [] = true) (hl : (apos.endLine == pos.line) = true) :
    eval (.Call (.Attribute o nm apos) args [] pos) env = (do
      let ov ← attributeBase o nm env (eval o env)
      standAt apos.atName
      let (f, first) ← holding [ov] (getMethod ov nm (do return (← importBound o env).getD true))
      callWith pos f first (backTo pos (starEach args env)) []) := by
  show (do
    let ov ← attributeBase o nm env (eval o env)
    standAt apos.atName
    methodCall o nm apos pos env ov (args.length + 0) (backTo pos (starEach args env)) (backToKw pos (keywordEach [] env))) = _
  have e0 : backToKw pos (keywordEach [] env) = [] := rfl
  rw [e0, Nat.add_zero]
  unfold methodCall calleeOf methodCallPos
  rw [hf, hl]
  rfl
theorem flt_body {mg mb m : Str → Option Value} {xn f y : Str} (T : FltC P K mg C xn f) {env : PySem.Env} {fd : FuncData} {fI cc cda : Addr} {ofd ocd : Option Addr} {ofc occ : Value} {ofs ocs : Array (Option Value)} {vs : Array Value} {file : Str} {tf : Tok} {ar : Arg} {cl : Value} {cld : Option Addr} {csl : Array (Option Value)}
    {s : Shared} {t0 : Addr} {v : Value} {b0 : List Stmt} {e : Expr} {p0 p1 p2 p3 p4 q1 q2 q3 q4 : Pos} {Q : Flow → Shared → Prop} {E : Value → Shared → Prop}
    (X : K.In s.heap) (G : s.heap.Ns mainGlobals mg) (Gb : s.heap.Ns builtinsNs mb) (hb : ∀ z : Str, z ≠ "__name__" → mb z = bootBuiltins z) (hx : s.heap.get? x = some (excO C t0)) (hnx : K.lookup x = none) (hxL : x ≠ env.locals)
    (hk : env.scope.kind = .function) (n1 : env.kindOf "self" = some .local) (n2 : env.kindOf y = some .local) (n3 : env.kindOf "super" = some .globalImplicit) (n4 : env.kindOf "__class__" = some .free) (hyd : (y == ("__debug__" : Str)) = false)
    (hfu : env.func = some fI) (hco : env.code = .ref cda) (hce : env.cells.lookup ("__class__" : Str) = some cc) (hgl : env.globals = mainGlobals) (hbl : env.builtins = builtinsNs)
    (ho : K.lookup fI = some ⟨ofc, ofd, .func fd, ofs⟩) (hcode : K.lookup cda = some ⟨occ, ocd, .fields vs, ocs⟩) (hvs : vs[2]? = some (.str file tf)) (hfile : (P.main.file == file) = true) (hcell : K.lookup cc = some ⟨cl, cld, .cell (some (.ref C)), csl⟩)
    (har : (fd.params.posonlyargs ++ fd.params.args).head? = some ar) (harg : ar.arg = "self") (hns : s.heap.Ns env.locals m) (lS : m "self" = some (.ref x)) (lY : m y = some v)
    (hi : interactive env = false) {pl : Sem Bool} (he : eval (.Call (.Attribute (.Call (.Name "super" p0) [] [] p1) "__init__" p2) [e] [] p3) env = (do
      let ov ← attributeBase (.Call (.Name "super" p0) [] [] p1) "__init__" env (eval (.Call (.Name "super" p0) [] [] p1) env)
      standAt p2.atName
      let (f, first) ← holding [ov] (getMethod ov "__init__" pl)
      callWith p3 f first (backTo p3 (starEach [e] env)) []))
    (hst : starEach [e] env = (false, eval e env) :: starEach [] env) (hev : ∀ {M : Model} {A : Around} {s' : Shared} {Q : Value → Shared → Prop} {E : Value → Shared → Prop}, s'.heap.Ns env.locals m → (∀ u t', Q u { s' with toks := t' }) → wpAny M A (eval e env) Q E s')
    (hq : ∀ h' tk dx, FltEnd s.heap h' x C dx f v → Q .next { s with heap := h', toks := tk }) :
    _root_.PySem.wpAt (model P w) A (.func b0 env) (execs [.Expr (.Call (.Attribute (.Call (.Name "super" p0) [] [] p1) "__init__" p2) [e] [] p3) p4, .Assign [.Attribute (.Name "self" q1) f q2] (.Name y q3) q4] env) Q E s := by
  obtain ⟨nm, q, N, bs, bm, sn, sub, ab, col, dd, k0, k1, k2, k3, k5, hC, hbm⟩ := T.cls
  have hcl : clsIn K C = some { name := nm, bases := bs, mro := .ref C :: bm, ns := N, qualname := q, hasDict := true, slotNames := sn, subclasses := sub, abstract := ab, collection := col, hasDel := false } := by unfold clsIn; rw [hC] <;> rfl
  have hxC : x ≠ C := fun z => by
    have e := X _ _ hC
    rw [← z, hx] at e
    cases e
  obtain ⟨oL, esL, epL, hL, hr⟩ := id hns
  refine ks_wpAt_execs_cons (ks_wpAt_Expr_any (hi := hi) (ks_wpAt_MethodCall (pl := pl) ?_ he))
  refine ks_wpAt_super_base n3 n4 (by decide) hfu (X _ _ ho) rfl har hco (X _ _ hcode) rfl hvs hfile T.tS ?_
  refine ks_loadName_global hk n3 (loadGlobal_builtin (by rw [hgl]; exact G) T.gS (by rw [hbl]; exact Gb) ((hb _ (by decide)).trans (by rfl)) ⟨rfl, ?_⟩)
  refine wpAny_loadName_free hk n4 hce ⟨_, X _ _ hcell, rfl⟩ ?_
  refine wpAny_loadName_local hk (by rw [harg]; exact n1) hns (by rw [harg]; exact lS) ?_
  refine ks_wpAny_isType_cls (X _ _ hC) rfl ⟨rfl, ?_⟩
  obtain ⟨h1, g, dr, tk, os⟩ := s
  refine ks_wpAny_call_super (X _ _ hC) rfl hx rfl (fun _ z => by cases z) (looks_mroIn X T.mro) (fun h2 e2 k2 => ?_)
  have X2 : K.In h2 := X.keeps k2
  have hx2 := k2 _ _ hx
  have I2 : InstAt h2 x (excO C t0) C none := ⟨hx2, rfl, rfl, trivial⟩
  have sup : alongIn K "__init__" (((Value.ref C :: bm).dropWhile (· != .ref C)).drop 1) = some (some (.builtin "ValueError.__init__")) := by
    have e := T.sup
    unfold ks_superIn at e
    rw [hcl] at e
    exact e
  refine kxs_getMethod kxs_ValueError e2 (looks_opaque X2 T.opq) (l₀ := .ref C :: bm) (fun A Q E s k q => wpAny_bind ((looks_clsIn X2 hcl) A _ E s k (wpAny_pure q))) rfl X2 sup (I2.type.andThen (looks_subIn X2 T.suB)) hxC (by decide) ?_
  have hu3 : (h2.push (kxs_mw "ValueError.__init__" x)).get? h2.objs.size = some (kxs_mw "ValueError.__init__" x) := Heap.get?_push_at rfl rfl
  have k3 : ∀ b o, h2.get? b = some o → (h2.push (kxs_mw "ValueError.__init__" x)).get? b = some o := fun b o e => Heap.get?_push_of_some _ e
  have fr2 : h2.get? h2.objs.size = none := by
    cases z : h2.get? h2.objs.size with
    | none => rfl
    | some o => exact absurd (Heap.lt_size z) (Nat.lt_irrefl _)
  have lL : env.locals < h2.objs.size := Heap.lt_size (k2 _ _ hL)
  have N : News h2 env.locals (h2.push (kxs_mw "ValueError.__init__" x)) [(h2.objs.size, kxs_mw "ValueError.__init__" x)] := fun p hp => by
    obtain rfl := List.mem_singleton.mp hp
    exact ⟨hu3, Nat.ne_of_gt lL, fr2⟩
  have hns3 : (h2.push (kxs_mw "ValueError.__init__" x)).Ns env.locals m := ⟨oL, esL, epL, k3 _ _ (k2 _ _ hL), hr⟩
  refine kxs_callWith1 N (List.mem_singleton.mpr rfl) ?_ hst (by rfl)
  rw [hst]
  show wpAny _ _ (spliced ((false, eval e env) :: backTo p3 (starEach [] env))) _ _ _
  have fin : ∀ (u : Value) (t' : Nat), wpAny (model P w) A (call (.ref h2.objs.size) [u]) (fun _ s' => _root_.PySem.wpAt (model P w) A (.func b0 env) (execs [.Assign [.Attribute (.Name "self" q1) f q2] (.Name y q3) q4] env) Q E s') E ⟨h2.push (kxs_mw "ValueError.__init__" x), g, dr, t', os⟩ := fun u t' => by
    refine mw_call (k3 _ _ (k2 _ _ (X _ _ hC))) (k3 _ _ hx2) hu3 (by rw [sizeLine_eq]; show 1 ≤ _; omega) fun h4 t1 k4 hx4 => ?_
    have n4 : ∀ b o, b ≠ x → h1.get? b = some o → h4.get? b = some o := fun b o hb e => k4 b o hb (k3 b o (k2 b o e))
    have X4 : K.In h4 := fun b o e => n4 b o (fun z => by rw [z, hnx] at e; cases e) (X _ _ e)
    have hns4 : h4.Ns env.locals m := ⟨oL, esL, epL, n4 _ _ (Ne.symm hxL) hL, hr⟩
    refine _root_.PySem.wpAt_of_wpAny (wpAny_execs_cons (plainObj_wpAny_Assign_Attribute ?_))
    refine wpAny_Name (wpAny_loadName_local hk n2 hns4 lY ?_) hyd
    refine wpAny_Name (wpAny_loadName_local hk n1 hns4 lS ?_) (by decide)
    refine set_plain X4 (ox := excO C t1) (od := none) ⟨hx4, rfl, rfl, trivial⟩ T.sa ?_
    refine exc_osa X4 hx4 hcl (show refsVE (.ref C :: bm) = true from hbm) rfl T.noN (fun h5 t5 dx k5 dn dne hx5 hn5 => ?_)
    have l1 : h1.objs.size < h2.objs.size := Heap.lt_size e2
    have l2 : h2.objs.size < h4.objs.size := Heap.lt_size (k4 _ _ (Nat.ne_of_gt (Heap.lt_size hx2)) hu3)
    have big : h1.objs.size ≤ dx := Nat.le_trans (Nat.le_of_lt (Nat.lt_trans l1 l2)) dn
    exact wpAny_execs_nil (hq h5 t5 dx ⟨fun b o hb e => k5 b o hb (n4 b o hb e), ⟨t1, hx5⟩, big, dne, hn5⟩)
  exact Calls.spliced_cons (hev hns3 fun u t' => Calls.spliced_nil ⟨hu3, fin u t'⟩)
theorem flt_init {mg mb : Str → Option Value} {xn f : Str} (T : FltC P K mg C xn f) {s : Shared} {t0 : Addr} {v : Value} (X : K.In s.heap) (G : s.heap.Ns mainGlobals mg) (Gb : s.heap.Ns builtinsNs mb) (hb : ∀ z : Str, z ≠ "__name__" → mb z = bootBuiltins z)
    (hlim : s.heap.NoLimit) (hx : s.heap.get? x = some (excO C t0)) (hnx : K.lookup x = none) (hroom : A.depth < recursionLimit) {fI : Addr} (hfI : findIn K (.ref C) "__init__" = some (some (.ref fI)))
    (hq : ∀ h' tk dx, FltEnd s.heap h' x C dx f v → R (.ok (.ret .none)) { s with heap := h', toks := tk }) :
    codeAny (model P w) A (.call (.ref fI) ⟨[.ref x, v], []⟩) R s := by
  obtain ⟨fI', cc, cda, y, a, oc, od, doc, pm, an, ct, osl, qual, pr, body, sc, gI, tI, ho, hcd, hbody, ⟨vs, ccl, cdd, ccs, file, tf, hcode, hvs, hfile⟩, ⟨cl, cld, csl, hcell⟩, ⟨ar, har, harg⟩, hbind, hnc, n1, n2, n3, n4, hco, hgen, hk, hys, hyd⟩ := T.fn
  rw [gI] at hfI; cases hfI
  obtain ⟨p0, p1, p2, p3, p4, p5, q1, q2, q3, q4, j, hl, rfl⟩ := hbody
  refine ks_codeAny_call_defAt hroom (X _ _ ho) rfl hlim (codeRec_of X hcd) rfl (hbind s (.ref x) v) hnc (fun z hz => ?_) (fun h₁ hns kp => ?_) hco hgen hk
  · rcases List.mem_cons.mp hz with rfl | hz
    · exact n1
    · obtain rfl := List.mem_singleton.mp hz
      exact n2
  have e1 : (("self" : Str) == y) = false := by simpa using Ne.symm hys
  have lx : x < s.heap.objs.size := Heap.lt_size hx
  have lS : (fun z => ([(("self" : Str), Value.ref x), (y, v)] : List (Str × Value)).reverse.lookup z) "self" = some (.ref x) := by
    show List.lookup _ [(y, v), (("self" : Str), Value.ref x)] = _
    simp [List.lookup, e1]
  have lY : (fun z => ([(("self" : Str), Value.ref x), (y, v)] : List (Str × Value)).reverse.lookup z) y = some v := by
    show List.lookup _ [(y, v), (("self" : Str), Value.ref x)] = _
    simp [List.lookup]
  have l : s.heap.objs.size < h₁.objs.size := hns.lt
  have hi : (sc.kind == ScopeKind.module && sc.more.any fun (n, _) => n == ("interactive" : Str)) = false := by rw [hk]; rfl
  have fin : ∀ h' tk dx, FltEnd h₁ h' x C dx f v → R (.ok (.ret .none)) { s with heap := h', toks := tk } := fun h' tk dx e =>
    hq h' tk dx ⟨fun b o hb q => e.keep b o hb (kp b o q), e.obj, Nat.le_trans (Nat.le_of_lt l) e.big, e.ne, e.ns⟩
  cases a with
  | par =>
    exact flt_body (v := v) T (X.keeps kp) (G.keeps kp) (Gb.keeps kp) hb (kp _ _ hx) hnx (Nat.ne_of_lt lx) hk n1 n2 n3 n4 hyd rfl rfl rfl rfl rfl ho hcode hvs hfile hcell har harg hns lS lY hi (sup_form (by rfl) hl) (by rfl)
      (fun hn k => wpAny_Name (wpAny_loadName_local hk n2 hn lY (k v _)) hyd) fin
  | txt t =>
    exact flt_body (v := v) T (X.keeps kp) (G.keeps kp) (Gb.keeps kp) hb (kp _ _ hx) hnx (Nat.ne_of_lt lx) hk n1 n2 n3 n4 hyd rfl rfl rfl rfl rfl ho hcode hvs hfile hcell har harg hns lS lY hi (sup_form (by rfl) hl) (by rfl)
      (fun hn k => Calls.Constant_str (k _ _)) fin
/-- a made error -/
structure FltMade (h h' : Heap) (e C d : Addr) (f : Str) (v : Value) : Prop where
  keep : ∀ b o, h.get? b = some o → h'.get? b = some o
  new : h.objs.size ≤ e
  obj : ∃ oe vs, h'.get? e = some oe ∧ oe.cls = .ref C ∧ oe.dict = some d ∧ oe.data = .fields vs ∧ vs[1]? = some .none
  big : h.objs.size ≤ d
  ne : d ≠ e
  ns : h'.Ns1 d (fun z => if z = f then some v else none)
theorem flt_made {mg mb : Str → Option Value} {xn f : Str} (T : FltC P K mg C xn f) {s : Shared} {v : Value} (X : K.In s.heap) (G : s.heap.Ns mainGlobals mg) (Gb : s.heap.Ns builtinsNs mb) (hb : ∀ z : Str, z ≠ "__name__" → mb z = bootBuiltins z) (hlim : s.heap.NoLimit) (hroom : A.depth + 1 < recursionLimit)
    (hq : ∀ h' tk e d, FltMade s.heap h' e C d f v → R (.ok (.ret (.ref e))) { s with heap := h', toks := tk }) :
    codeAny (model P w) A (.call (.ref C) ⟨[v], []⟩) R s := by
  obtain ⟨nm, q, N, bs, bm, sn, sub, ab, col, dd, k0, k1, k2, k3, k5, hC, hbm⟩ := T.cls
  obtain ⟨fI, cc, cda, y, a, oc, od, doc, pm, an, ct, osl, qual, pr, body, sc, gI, tI, _⟩ := id T.fn
  obtain ⟨hp, g, dr, tk, os⟩ := s
  have up : ∀ b o, hp.get? b = some o → ((hp.push (kdv_tup [v])).push (excO C hp.objs.size)).get? b = some o := fun b o e => Heap.get?_push_of_some _ (Heap.get?_push_of_some _ e)
  have at1 : ((hp.push (kdv_tup [v])).push (excO C hp.objs.size)).get? (hp.objs.size + 1) = some (excO C hp.objs.size) := by heap_get
  have out : K.lookup (hp.objs.size + 1) = none := by
    cases e : K.lookup (hp.objs.size + 1) with
    | none => rfl
    | some o => exact absurd (Nat.lt_of_succ_lt (Heap.lt_size (X _ _ e))) (Nat.lt_irrefl _)
  refine call_own F.excBase_ValueError (fun Y => refsVE_contains Y bm hbm) (X _ _ hC) (looks_findIn X gI) (fun self => bind_fn X self tI) (by rw [sizeLine_eq]; show 1 ≤ _; omega) ?_
  refine flt_init (s := ⟨(hp.push (kdv_tup [v])).push (excO C hp.objs.size), g, dr, tk, os⟩) T (X.keeps up) (G.keeps up) (Gb.keeps up) hb (hlim.keeps up) at1 out hroom gI fun h' tk' dx M => ?_
  have old : ∀ b o, hp.get? b = some o → h'.get? b = some o := fun b o e => M.keep b o (Nat.ne_of_lt (Nat.lt_succ_of_lt (Heap.lt_size e))) (up b o e)
  have sz : ((hp.push (kdv_tup [v])).push (excO C hp.objs.size)).objs.size = hp.objs.size + 1 + 1 := by rw [Heap.size_push, Heap.size_push]
  obtain ⟨t1, ob⟩ := M.obj
  have big := M.big
  rw [show (⟨(hp.push (kdv_tup [v])).push (excO C hp.objs.size), g, dr, tk, os⟩ : Shared).heap.objs.size = hp.objs.size + 1 + 1 from sz] at big
  exact ⟨rfl, hq h' tk' (hp.objs.size + 1) dx ⟨old, Nat.le_succ _, ⟨_, _, ob, rfl, rfl, rfl, rfl⟩, Nat.le_trans (Nat.le_trans (Nat.le_succ _) (Nat.le_succ _)) big, M.ne, M.ns⟩⟩
end
end Mp
namespace Mp
open PySem PySem.Spec PyProof.Rows L2
theorem relO_one {v : V} {v' : Value} (r : RelV v v') (n f : Str) : RelO (List.lookup f [(n, v)]) (if f = n then some v' else none) := by
  by_cases h : f = n
  · subst h
    simp [List.lookup, RelO, r]
  · have q : (f == n) = false := by simpa using h
    simp [List.lookup, q, h, RelO]
section
variable {X : Cx} {C : Addr}
/-- X(e): an error with one field -/
def tMkF (C : Addr) (f : Str) (ta : TA) : L2.St → Hp → XK → Prop := fun σ H Q => ta σ H fun vs H1 => ∃ v, vs = [v] ∧ ∀ d, H1 d = none → Q (.ref C) (some d) (upd H1 d (.xd [(f, v)]))
theorem pmk_flt {a : Expr} {ta : TA} {p pos : Pos} {k : Nat} {x f : Str} (T : FltC X.prog X.K X.mg C x f) (hr : Room k X.A) (ha : PA X [a] ta) (hg : Gl X x) (hdb : (x == ("__debug__" : Str)) = false)
    (he : starEach (a :: []) X.env = (false, eval a X.env) :: starEach [] X.env) (hpl : (backTo pos (starEach [] X.env)).any (·.1) = false := by rfl) : PMk X (.Call (.Name x p) [a] [] pos) (tMkF C f ta) := by
  intro pins s σ H Q I h
  refine wpAny_Call_Name_kw (ld_glob I hg T.gC ?_ hdb)
  refine PySem.W.callWith_K (h₀ := X.base) I.ok.mod.kin T.kC (thn (ha.run pos pins s σ H _ I h) fun us s1 hh => ?_) he hpl
  obtain ⟨vs, H1, I1, r1, v, rfl, q1⟩ := hh
  refine ⟨I1.kIn, ?_⟩
  cases r1 with
  | cons rv rn =>
    rename_i u us'
    cases rn
    show wpAny _ _ (call (.ref C) [u]) _ _ _
    obtain ⟨mb, hb1, hb2⟩ := I1.mod.blt
    have lim := I1.nolimit
    have G1 := I1.mod.glob.keeps I1.bk
    have B1 := hb1.keeps I1.bk
    obtain ⟨hp, g, dr, tk, os⟩ := s1
    refine wpAny_call (flt_made T I1.kIn G1 B1 hb2 lim (by have := hr.dp; omega) fun h' tk' e d M => ?_)
    show MkP X pins σ Q (.ref e) ⟨h', g, dr, tk', os⟩
    obtain ⟨oe, fv, hoe, hc, hd, hdat, h1⟩ := M.obj
    have hns := M.ns
    obtain ⟨G', g1, g2⟩ := restrict h' fun b => decide (b ≠ e)
    have gk : ∀ b, b ≠ e → G'.get? b = h'.get? b := fun b hb => g1 b (decide_eq_true hb)
    have ge : G'.get? e = none := g2 e (by simp)
    have old : ∀ b o, hp.get? b = some o → G'.get? b = some o := fun b o q => (gk b (Nat.ne_of_lt (Nat.lt_of_lt_of_le (Heap.lt_size q) M.new))).trans (M.keep b o q)
    have ob : ObjOk X.prog X.w (upd H1 d (.xd [(f, v)])) G' d (.xd [(f, v)]) := ⟨_, hns.at (fun o q => (gk d M.ne).trans q), fun z => relO_one rv f z⟩
    have J : Inv X pins σ (upd H1 d (.xd [(f, v)])) ⟨G', g, dr, tk', os⟩ := I1.laid (t' := tk') old M.big ob
    refine ⟨e, oe, fv, ⟨G', g, dr, tk', os⟩, _, .ref C, some d, rfl, J, fun b o q => ?_, ge, hoe, ⟨hc, hd⟩, hdat, h1, ?_, rfl, I1.bare, raises_own T.exC T.tyC, q1 d (I1.hok.fresh M.big)⟩
    · have hb : b ≠ e := fun z => by
        have q' : G'.get? b = some o := q
        rw [z, ge] at q'; cases q'
      exact (gk b hb).symm.trans q
    · rw [upd_ne (Ne.symm M.ne)]
      exact I1.hok.fresh M.new
end
end Mp

set_option Elab.async false
set_option linter.all false
set_option maxRecDepth 100000
set_option maxHeartbeats 4000000
/-! Mp, part 18.3: try with several clauses, each with or without a name. -/
namespace Mp
open PySem PySem.Spec PyProof.Rows L2
/-- the ends of a suite whose clause names slot i -/
def wipeEnds (D : Ends) (i : Nat) : Ends := { nx := fun σ H => D.nx (σ.set i none) H, rt := D.rt, bk := fun σ H => D.bk (σ.set i none) H, ct := fun σ H => D.ct (σ.set i none) H }
abbrev Clause := Value × Option Nat × (Addr → Value → Option Addr → TS)
def suiteOf (o : Option Nat) (ts : TS) (a : Addr) (D : Ends) (σ : L2.St) (H : Hp) : Prop :=
  match o with
  | none => ts D σ H
  | some i => i < σ.length → ts (wipeEnds D i) (σ.set i (some (.ref a))) H
def wMix (K : PySem.W.Frag) (Wout : WX) (D : Ends) : List Clause → WX
  | [] => Wout
  | (c, o, ts) :: r => fun cls d σ H => ∃ b, PySem.W.exmOne K cls c = some b ∧ (b = false → wMix K Wout D r cls d σ H) ∧ (b = true → ∀ a, H a = none → suiteOf o (ts a cls d) a D σ H)
inductive HdsM (X : Cx) : List ExceptHandler → List Clause → Prop
  | nil : HdsM X [] []
  | cons {x : Str} {c : Value} {o : Option Nat} {n : Option Str} {ts : Addr → Value → Option Addr → TS} {b₀ : Stmt} {su : List Stmt} {np ps : Pos} {hds : List ExceptHandler} {l : List Clause} (hc : Names X x c)
      (hn : match o, n with | none, none => True | some i, some y => X.N[i]? = some y ∧ X.env.kindOf y = some .local | _, _ => False)
      (hsu : ∀ (a : Addr) (oe : Obj) (cls : Value) (d : Option Addr) (pn : List (Addr × Obj)), Zc cls d oe → (∃ vs, oe.data = .fields vs) → PSs (X.suite a ((a, oe) :: pn)) (b₀ :: su) (ts a cls d)) (r : HdsM X hds l) :
      HdsM X (.ExceptHandler (some (.Name x np)) n (b₀ :: su) ps :: hds) ((c, o, ts) :: l)
section
variable {X : Cx} {body : List Stmt} {h₀ : ExceptHandler} {hds : List ExceptHandler} {l : List Clause} {pos : Pos} {tb : WX → TS} {Wout : WX}
/-- a suite's end, back in the def's context -/
theorem suite_back {pins qs : List (Addr × Obj)} {D : Ends} {a : Addr} {q : Addr × Obj} (ok : X.Ok) {f : Flow} {s : Shared} (h : SP (X.suite a (q :: (X.pn ++ pins))) qs D f s) : SP X pins D f s := by
  cases f with
  | next => exact let ⟨σ, H, J, z⟩ := h; ⟨σ, H, J.unsuite ok, z⟩
  | brk => exact let ⟨σ, H, J, z⟩ := h; ⟨σ, H, J.unsuite ok, z⟩
  | cont => exact let ⟨σ, H, J, z⟩ := h; ⟨σ, H, J.unsuite ok, z⟩
  | ret u => exact let ⟨v, σ, H, J, r, z⟩ := h; ⟨v, σ, H, J.unsuite ok, r, z⟩
/-- a try's body, back in the def's context -/
theorem try_back {pins : List (Addr × Obj)} {xe : Value → Shared → Prop} {D : Ends} (ok : X.Ok) {f : Flow} {s : Shared} (h : SP (X.tr (X.pn ++ pins) xe) [] D f s) : SP X pins D f s := by
  cases f with
  | next => exact let ⟨σ, H, J, z⟩ := h; ⟨σ, H, J.ofTry ok, z⟩
  | brk => exact let ⟨σ, H, J, z⟩ := h; ⟨σ, H, J.ofTry ok, z⟩
  | cont => exact let ⟨σ, H, J, z⟩ := h; ⟨σ, H, J.ofTry ok, z⟩
  | ret u => exact let ⟨v, σ, H, J, r, z⟩ := h; ⟨v, σ, H, J.ofTry ok, r, z⟩
/-- the clauses, one after the other: the error at a stands on the ground -/
theorem clauses_run (hs : X.stack = X.env :: X.outer) (hf : X.env.frame = some X.env.locals) (hN : X.N.Nodup) (tk : Takes X Wout) {pins : List (Addr × Obj)} {D : Ends} {a : Addr} {G : Heap} {sJ s1 : Shared} {σ' : L2.St} {H' : Hp} {cls : Value} {d : Option Addr} {h3 : Heap}
    (J : Inv X pins σ' H' sJ) (nb : ∀ b o, sJ.heap.get? b = some o → b ∉ frs X.stack → G.get? b = some o) (na : H' a = none) (eos : s1.os = sJ.os) (ag : AllBare s1.gens) (fl3 : HandSPX.FlyingZ G (X.env :: X.outer) a (Zc cls d) h3) (up3 : sJ.heap.UpToSlots h3) :
    ∀ {hds : List ExceptHandler} {l : List Clause}, HdsM X hds l → wMix X.K Wout D l cls d σ' H' → wpAny (model X.prog X.w) X.A (handleBy (.ref a) X.env hds) (SP X pins D) X.xe { s1 with heap := h3 } := by
  have ok := J.ok
  have grd : ∀ {h : Heap} {o : Obj} {vs : Array Value}, h.FunFrames G (X.env :: X.outer) → h.get? a = some o → o.data = .fields vs → a ∉ frs (X.env :: X.outer) := fun ff e dd hm => by
    obtain ⟨_, o2, e2, no⟩ := ff.mem hm
    rw [e] at e2; cases e2
    exact no _ dd
  obtain ⟨oe3, vs3, he3, hz3, hd3⟩ := fl3.there
  have out := grd fl3.2.2.1 he3 hd3
  have aL : a ≠ X.env.locals := fun z => out (List.mem_filterMap.mpr ⟨X.env, List.mem_cons_self, by rw [hf, z]⟩)
  have aF : a ∉ X.fs := fun hm => by
    obtain ⟨e, m, q⟩ := List.mem_filterMap.mp hm
    exact out (List.mem_filterMap.mpr ⟨e, List.mem_cons_of_mem _ m, q⟩)
  have J3 : Inv X pins σ' H' { s1 with heap := h3 } := J.landed nb fl3.1 up3 eos ag
  have S3 := J3.suite he3 hd3 na aL aF
  intro hds l hk
  induction hk with
  | nil =>
    intro w
    refine wpAny_handleBy_nil ?_
    obtain ⟨k1, k2, k3, oe, vs, T, oT, ts', he, hz, hd, h1, hr⟩ := id fl3
    unfold PySem.passOn
    refine wpAny_bind (wpAny_field he hd h1 ?_)
    have nt : ¬ ((Value.ref T == Value.none) = true) := by simp
    rw [if_neg nt]
    have go : wpAny (model X.prog X.w) X.A (setFlight (.ref a) X.env.frame) (fun _ s4 => wpAny (model X.prog X.w) X.A (throw (.ref a) : Sem Flow) (SP X pins D) X.xe s4) X.xe { s1 with heap := h3 } := by
      rw [hf]
      refine HandSPX.setFlight_upZ fl3 fun h4 hh up => wpAny_throw (tk _ _ ?_)
      exact ⟨a, G, sJ, pins, σ', H', cls, d, rfl, J, nb, up3.trans up, .inr (.inr (by rw [hs]; exact hh)), na, eos, ag, w⟩
    first
      | exact wpAny_bind (wpAny_pure (wpAny_bind go))
      | exact wpAny_bind go
  | @cons x c o n ts b₀ su np ps hds2 l2 hc hn hsu r ih =>
    intro w
    obtain ⟨b, hb1, hno, hyes⟩ := w
    refine wpAny_handleBy_cons (codeAny_handlers_test ?_) (by intro q; cases q)
    have ty : PySem.W.Looks (model X.prog X.w) h3 (typeOf (.ref a)) cls := fun A Q E s k q => wpAny_typeOf_ref (k _ _ he3) (by rw [hz3.1]; exact q)
    have ask := PySem.W.exm_one (M := model X.prog X.w) J3.kIn ty hb1
    have nam : ∀ {Q : Value → Shared → Prop} {E : Value → Shared → Prop}, Q c { s1 with heap := h3 } → wpAny (model X.prog X.w) (X.A.mark (some (.ref a))) (eval (.Name x np) X.env) Q E { s1 with heap := h3 } := fun q => by
      obtain ⟨g1, g2, g3 | ⟨g3, g4, g5⟩⟩ := hc
      · exact ld_glob (X := X.suite a ((a, oe3) :: (X.pn ++ pins))) S3 g1 g3 q g2
      · exact ld_blt (X := X.suite a ((a, oe3) :: (X.pn ++ pins))) S3 g1 g3 g4 q g5 g2
    refine nam (ask.here ?_)
    cases b with
    | false =>
      show wpAny _ X.A (handleBy (.ref a) X.env hds2) _ _ _
      exact ih (hno rfl)
    | true =>
      cases o with
      | none =>
        cases n with
        | some y => exact hn.elim
        | none =>
          refine codeAny_handlers_suite ?_
          refine HandSPX.lands_againZ fl3 fun h4 fl4 up4 => ?_
          obtain ⟨oe4, vs4, he4, hz4, hd4⟩ := fl4.there
          have J4 : Inv X pins σ' H' { s1 with heap := h4 } := J.landed nb fl4.1 (up3.trans up4) eos ag
          exact wpAny_mono ((hsu a oe4 cls d (X.pn ++ pins) hz4 ⟨_, hd4⟩).run [] _ _ H' _ (J4.suite he4 hd4 na aL aF) (hyes rfl a na)) (fun f s6 z => suite_back ok z) (fun _ _ z => False.elim z)
      | some i =>
        cases n with
        | none => exact hn.elim
        | some y =>
          obtain ⟨hi, hy⟩ := hn
          refine codeAny_handlers_suite_as ?_
          refine HandSPX.lands_againZ fl3 fun h4 fl4 up4 => ?_
          obtain ⟨oe4, vs4, he4, hz4, hd4⟩ := fl4.there
          have J4 : Inv X pins σ' H' { s1 with heap := h4 } := J.landed nb fl4.1 (up3.trans up4) eos ag
          have S4 := J4.suite he4 hd4 na aL aF
          refine store_ok (X := X.suite a ((a, oe4) :: (X.pn ++ pins))) (v := .ref a) S4 hN hi (.inl hy) rfl (fun s5 S5 => ?_) (.inr hy)
          refine wpAny_mono ((hsu a oe4 cls d (X.pn ++ pins) hz4 ⟨_, hd4⟩).run [] s5 _ H' _ S5 (hyes rfl a na (by rw [J.len]; exact (List.getElem?_eq_some_iff.mp hi).1))) (fun f s6 z => ?_) (fun _ _ z => False.elim z)
          have leave : ∀ {σ6 : L2.St} {H6 : Hp} {Q : Shared → Prop}, Inv X pins σ6 H6 s6 → (∀ s7, Inv X pins (σ6.set i none) H6 s7 → Q s7) →
              wpAny (model X.prog X.w) X.A (do bindName X.env y .none; unbindBehindTheSuite X.env y ps) (fun _ s7 => Q s7) X.xe s6 := fun S6 k => gone_ok S6 hN hi hy k
          have z := suite_back ok z
          cases f with
          | next => obtain ⟨σ6, H6, J6, z⟩ := z; exact leave J6 fun s7 J7 => ⟨_, _, J7, z⟩
          | brk => obtain ⟨σ6, H6, J6, z⟩ := z; exact leave J6 fun s7 J7 => ⟨_, _, J7, z⟩
          | cont => obtain ⟨σ6, H6, J6, z⟩ := z; exact leave J6 fun s7 J7 => ⟨_, _, J7, z⟩
          | ret u => obtain ⟨v6, σ6, H6, J6, r6, z⟩ := z; exact leave J6 fun s7 J7 => ⟨_, _, _, J7, r6, z⟩
theorem ps_mix (hs : X.stack = X.env :: X.outer) (hf : X.env.frame = some X.env.locals) (hN : X.N.Nodup) (tk : Takes X Wout)
    (hb : ∀ (W : WX) (pn : List (Addr × Obj)) (xe : Value → Shared → Prop), Takes (X.tr pn xe) W → PassesOwn (model X.prog X.w) X.A X.env xe → PSs (X.tr pn xe) body (tb W))
    (hh : HdsM X (h₀ :: hds) l) : PS X (.Try body (h₀ :: hds) [] [] pos) (fun D σ H => tb (wMix X.K Wout D l) D σ H) := by
  refine ⟨fun pins s σ H D I h => ?_⟩
  have ok := I.ok
  refine wpAny_Try_except (wpAny_mono ((hb (wMix X.K Wout D l) (X.pn ++ pins) _ (fun u s' xx => ?_) PassesOwn.looking).run [] s σ H D (I.toTry _) h) (fun f s1 z => ?_) (fun e s1 he => he))
  · obtain ⟨a, G, sJ, pins', σ', H', cls, d, rfl, J', nb, up, sky, na, eos, ag, w⟩ := xx
    have sky' : Sky G (X.env :: X.outer) a (Zc cls d) X.env.locals s'.heap := by rw [← hs]; exact sky
    have fr : X.A.frames = some (X.env :: X.outer) := by rw [ok.frames, hs]
    show wpAny (model X.prog X.w) X.A (noteFrame (.ref a) X.env) _ _ _
    exact Sky.land Zc.steady fr hf sky' fun h3 fl3 up3 => clauses_run hs hf hN tk (J'.ofTry ok) nb na eos ag fl3 (up.trans up3) hh w
  · have z := try_back ok z
    cases f with
    | next => exact wpAny_execs_nil z
    | brk => exact z
    | cont => exact z
    | ret u => exact z
end
/-- an error class of the text -/
structure XcI (P : Program) (B : Bd) (mg : Str → Option Value) (c : Nat) (C : Addr) : Prop where
  xc : B.xc c = some (C, xfd c)
  gC : mg (xnm c) = some (.ref C)
  kC : PySem.W.keepIn B.K (.ref C) = true
  exC : PySem.W.subIn B.K (.ref C) (.type "BaseException") = some true
  tyC : PySem.W.typeIn B.K (.ref C) = some (.type "type")
  how : match xfd c with
    | none => PySem.W.excIn B.K C [.type "ValueError", .type "Exception", .type "BaseException", .type "object"] "ValueError.__new__" = true
    | some f => FltC P B.K mg C (xnm c) f ∧ XfC B.K C
end Mp

set_option Elab.async false
set_option linter.all false
set_option maxRecDepth 100000
set_option maxHeartbeats 4000000
/-! Mp, part 18: statements are sound. -/
namespace Mp
open PySem PySem.Spec L2
def locB (sc : Scope) (x : Str) : Bool := match sc.names.lookup x with
  | some .local => true
  | some .cell => true
  | _ => false
def plainV : Expr → Bool
  | .ListComp .. => false | .SetComp .. => false | .DictComp .. => false | _ => true
def notTup : Expr → Bool
  | .Tuple .. => false | _ => true
/-- name = e -/
def asgOk (sc : Scope) (x : Str) (py : Pos) (e : Expr) : Bool :=
  match e with
  | .ListComp _ _ scope pos => decide (sc.names.lookup x = some .local) && (py.line == pos.line) && !(scope.names.any fun (n, k) => n == x && (k == .local || k == .cell))
  | .SetComp .. => false
  | .DictComp .. => false
  | _ => true
def notK : E → Bool
  | .compK .. => false
  | _ => true
def asgOkE (e : E) (sc : Scope) (x : Str) (py : Pos) (e' : Expr) : Bool := asgOk sc x py e' && notK e
def isStrC : Expr → Bool
  | .Constant (.str _) _ _ => true
  | _ => false
/-! what a try may hold: nothing is stored there -/
mutual
def flatS : S → Bool
  | .drop _ => true
  | .ret _ => true
  | .if_ _ a b => flatSs a && flatSs b
  | _ => false
def flatSs : Ss → Bool
  | .nil => true
  | .cons s r => flatS s && flatSs r
end
section
variable (T : Tab) (N : List Str) (sc : Scope) (i : Option Nat)
def isX : XE → Expr → Bool
  | .fld k, e => (match e, i with | .Attribute (.Name y _) f _, some j => decide (N[j]? = some y) && visB sc y && nameOk y && decide (xfd k = some f) && T.xs.contains k | _, _ => false)
  | .str s, e => (match e with | .Constant (.str t) _ _ => decide (t = s) | _ => false)
  | .int s, e => (match e with | .Constant (.int t) _ _ => decide (t = s) | _ => false)
  | .bl s, e => (match e with | .Constant (.bool t) _ _ => decide (t = s) | _ => false)
  | .pair a b, e => (match e with | .Tuple [a', b'] _ _ => okX a' && okX b' && isX a a' && isX b b' | _ => false)
  | .eqs k s, e => (match e with | .Compare a' [.Eq] [.Constant (.str t) _ _] _ => isX (.fld k) a' && decide (t = s) | _ => false)
def isSu : Su → List Stmt → Bool
  | .ret x, l => (match l with | [.Return (some e') _] => isX T N sc i x e' | _ => false)
  | .app j x, l => (match l with
    | [.Expr (.Call (.Attribute (.Name y _) name ap) [e'] [] cp) _] => decide (N[j]? = some y) && visB sc y && nameOk y && decide (name = ("append" : Str)) && (ap.endLine == cp.line) && okX e' && isX T N sc i x e'
    | _ => false)
  | .inc j n, l => (match l with
    | [.Assign [.Name y _] (.BinOp (.Name z _) .Add (.Constant (.int m) _ _) _) _] => decide (N[j]? = some y) && locB sc y && decide (z = y) && visB sc y && nameOk y && decide (m = n)
    | _ => false)
end
section
variable (T : Tab) (N : List Str) (sc : Scope)
def isHd (h : Hd) (e : ExceptHandler) : Bool :=
  match e with
  | .ExceptHandler (some (.Name x _)) n (b₀ :: su) _ => decide (x = xnm h.c) && T.xs.contains h.c && glB sc x && nameOk x && (match h.i, n with | none, none => true | some i, some y => decide (N[i]? = some y) && decide (sc.names.lookup y = some .local) | _, _ => false) && isSu T N sc h.i h.su (b₀ :: su)
  | _ => false
def isHds : List Hd → List ExceptHandler → Bool
  | [], l => l.isEmpty
  | h :: r, l => (match l with | e :: l' => isHd T N sc h e && isHds r l' | [] => false)
end
section
variable (T : Tab) (N : List Str)
mutual
def isS : Scope → S → Stmt → Bool
  | sc, .set i e, s => (match s with
    | .Assign [.Name x py] e' _ => decide (N[i]? = some x) && locB sc x && asgOkE e sc x py e' && isE T N sc e e'
    | _ => false)
  | sc, .own i e, s => (match s with
    | .Assign [.Name x py] e' _ => decide (N[i]? = some x) && locB sc x && asgOkE e sc x py e' && fresh e && isE T N sc e e'
    | _ => false)
  | sc, .un is e, s => (match s with
    | .Assign [.Tuple es _ _] e' _ => plainV e' && notTup e' && isTgs N sc sc is es && isE T N sc e e'
    | _ => false)
  | sc, .aug i op e, s => (match s with
    | .AugAssign (.Name x _) op' e' _ => decide (N[i]? = some x) && locB sc x && decide (bopOp op = op') && isE T N sc e e'
    | _ => false)
  | sc, .put i k e, s => (match s with
    | .Assign [.Subscript (.Name x _) k' _] e' _ => decide (N[i]? = some x) && visB sc x && nameOk x && okX k' && isE T N sc k k' && isE T N sc e e'
    | _ => false)
  | sc, .app i e, s => (match s with
    | .Expr (.Call (.Attribute (.Name x _) name ap) [e'] [] cp) _ => decide (N[i]? = some x) && visB sc x && nameOk x && decide (name = ("append" : Str)) && (ap.endLine == cp.line) && okX e' && isE T N sc e e'
    | _ => false)
  | sc, .rem i e, s => (match s with
    | .Expr (.Call (.Attribute (.Name x _) name ap) [e'] [] cp) _ => decide (N[i]? = some x) && visB sc x && nameOk x && decide (name = ("remove" : Str)) && (ap.endLine == cp.line) && okX e' && isE T N sc e e'
    | _ => false)
  | sc, .mov i j, s => (match s with
    | .Assign [.Name x _] (.Name y _) _ => decide (N[i]? = some x) && locB sc x && decide (N[j]? = some y) && visB sc y && nameOk y
    | _ => false)
  | sc, .drop e, s => (match s with
    | .Expr e' _ => plainV e' && isE T N sc e e'
    | _ => false)
  | sc, .ret e, s => (match s with
    | .Return (some e') _ => isE T N sc e e'
    | _ => false)
  | _, .ret0, s => (match s with | .Return none _ => true | _ => false)
  | sc, .if_ c a b, s => (match s with
    | .If c' a' b' _ => tOk c' && isE T N sc c c' && isSs sc a a' && isSs sc b b'
    | _ => false)
  | sc, .while_ c b, s => (match s with
    | .While c' b' [] _ => tOk c' && isE T N sc c c' && isSs sc b b'
    | _ => false)
  | sc, .for_ xs it b, s => (match s with
    | .For tg iter b' [] _ => okX iter && isTg N sc sc xs tg && isIt T N sc it iter && isSs sc b b'
    | _ => false)
  | _, .brk, s => (match s with | .Break _ => true | _ => false)
  | _, .cont, s => (match s with | .Continue _ => true | _ => false)
  | _, .pass, s => (match s with | .Pass _ => true | .Expr (.Constant (.str _) _ _) _ => true | _ => false)
  | _, .never, _ => true
  | sc, .raise c e, s => (match s with
    | .Raise (some (.Call (.Name x _) [a'] [] _)) none _ => decide (x = xnm c) && T.xs.contains c && glB sc x && nameOk x && okX a' && isE T N sc e a' && ((xfd c).isSome || isStrC a')
    | _ => false)
  | sc, .try_ b hs, s => (match s with
    | .Try b' (h :: hs') [] [] _ => flatSs b && isSs sc b b' && isHds T N sc hs (h :: hs')
    | _ => false)
  | _, _, _ => false
def isSs : Scope → Ss → List Stmt → Bool
  | _, .nil, l => (match l with | [] => true | _ => false)
  | sc, .cons (.frz i) r, l => isSs sc r l
  | sc, .cons s r, l => (match l with | s' :: r' => isS sc s s' && isSs sc r r' | _ => false)
end
end
structure CxS (T : Tab) (B : Bd) (G : Cfg) (k : Nat) (N : List Str) (sc : Scope) (X : Cx) : Prop where
  ok : CxOk T B G k N sc X
  own : PassesOwn (model X.prog X.w) X.A X.env X.xe
  fn : ∀ x, X.fn x = true
  kind : sc.kind = .function
  stk : X.stack = X.env :: X.outer
  frm : X.env.frame = some X.env.locals
  xcs : ∀ c, T.xs.contains c = true → ∃ C, XcI X.prog B X.mg c C
  xsb : ∀ c x C C' fo fo', B.xc c = some (C, fo) → B.xc x = some (C', fo') → PySem.W.exmOne B.K (.ref C) (.ref C') = some (xsub c x)
theorem locB_of {sc : Scope} {x : Str} (h : locB sc x = true) : Loc sc x := by
  unfold locB at h
  split at h
  · exact .inl (by assumption)
  · exact .inr (by assumption)
  · cases h
section
variable {T : Tab} {B : Bd} {G : Cfg} {k : Nat} {N : List Str} {sc : Scope} {X : Cx} {Wx : XK}
theorem swaps_plain {e : Expr} (h : plainV e = true) (t : Option Expr) (l : Nat) (env : PySem.Env) : swapsWith e t l env = pure false := by
  cases e <;> first | rfl | cases h
theorem tSO.elim {f : Env → M Out} {D : Ends} {σ : L2.St} {H : Hp} {P : Prop} (h : tSO B Wx f D σ H) (k : ∀ sa Hs0 H0 rs0 Hs rs ρ, SR B sa Hs0 H0 rs0 Hs H rs ρ σ → Post B sa Wx Hs0 H0 rs0 (f ρ rs) (OutOk B sa Hs0 H0 rs0 D) → P) : P := by
  obtain ⟨sa, Hs0, H0, rs0, Hs, rs, ρ, sr, p⟩ := h
  exact k sa Hs0 H0 rs0 Hs rs ρ sr p
/-- name = e, by any reading -/
theorem s_asg (c : CxS T B G k N sc X) (tk : Takes X (cW Wx)) {i : Nat} {x : Str} {py pos : Pos} {e : E} {e' : Expr} (h1 : N[i]? = some x) (h2 : locB sc x = true) (h3 : asgOkE e sc x py e' = true) (h4 : isE T N sc e e' = true) :
    PS X (.Assign [.Name x py] e' pos) (tAsg (tE B G (cW Wx) false e) (gName i)) ∧ (fresh e = true → PS X (.Assign [.Name x py] e' pos) (tAsg (tF B G (cW Wx) e) (gName i))) := by
  unfold asgOkE at h3
  rw [Bool.and_eq_true] at h3
  obtain ⟨h3, hK⟩ := h3
  have snd := soundE e sc X (cW Wx) e' c.ok tk h4
  have hN : X.N.Nodup := by rw [c.ok.hN]; exact c.ok.nd
  have hi : X.N[i]? = some x := by rw [c.ok.hN]; exact h1
  have hl : Loc X.env.scope x := by rw [c.ok.hsc]; exact locB_of h2
  by_cases hp : plainV e' = true
  · exact ⟨ps_set hN hi hl (snd.pe false) (swaps_plain hp _ _ _) (.inl (c.fn x)), fun hf => ps_set hN hi hl (snd.pf hf) (swaps_plain hp _ _ _) (.inl (c.fn x))⟩
  · cases e' <;> first | exact absurd rfl hp | (cases h3; done) | skip
    rename_i el' gs scope pos'
    unfold asgOk at h3
    simp only [Bool.and_eq_true, decide_eq_true_eq, Bool.not_eq_true'] at h3
    obtain ⟨⟨q1, q2⟩, q3⟩ := h3
    have main : ∀ {el xs it cs}, e = .comp el xs it cs → PS X (.Assign [.Name x py] (.ListComp el' gs scope pos') pos) (tAsg (tF B G (cW Wx) e) (gName i)) := by
      intro el xs it cs he
      subst he
      unfold isE at h4
      split at h4
      · rename_i el2 tg iter ifs scope2 pos2 heq
        cases heq
        simp only [Bool.and_eq_true] at h4
        obtain ⟨⟨⟨⟨⟨a1, a2⟩, a3⟩, a4⟩, a5⟩, a6⟩ := h4
        exact s_comp c.ok a1 a2 a6 (soundIt it sc X _ _ _ true c.ok tk a3) (fun X' c' => soundC cs _ X' WF _ c' takesWF (by exact a4)) (fun X' c' => (soundE el _ X' WF _ c' takesWF a5).pe) h1 c.kind q1 q2 q3
      · cases h4
    have isc : ∃ el xs it cs, e = .comp el xs it cs := by
      cases e <;> unfold isE at h4 <;> first | exact ⟨_, _, _, _, rfl⟩ | (cases h4; done) | (cases hK; done)
    obtain ⟨el, xs, it, cs, rfl⟩ := isc
    have m := main rfl
    exact ⟨PS.imp m fun D σ H q => tE_tF (pk := false) (fun pk ρ rs => rfl) q, fun _ => m⟩
theorem s_set (c : CxS T B G k N sc X) (tk : Takes X (cW Wx)) {i : Nat} {x : Str} {py pos : Pos} {e : E} {e' : Expr} (h1 : N[i]? = some x) (h2 : locB sc x = true) (h3 : asgOkE e sc x py e' = true) (h4 : isE T N sc e e' = true) :
    PS X (.Assign [.Name x py] e' pos) (tS B G Wx (.set i e)) :=
  PS.imp (s_asg c tk h1 h2 h3 h4).1 fun D σ H ⟨sa, Hs0, H0, rs0, Hs, rs, ρ, sr, p⟩ => by
    unfold execS at p
    exact toES sr p fun d Hs1 H1 rs1 v e1 sr1 r1 p => Post.ok' p sr1.ext _ (sr1.put i r1)
theorem s_own (c : CxS T B G k N sc X) (tk : Takes X (cW Wx)) {i : Nat} {x : Str} {py pos : Pos} {e : E} {e' : Expr} (h1 : N[i]? = some x) (h2 : locB sc x = true) (h3 : asgOkE e sc x py e' = true) (hf : fresh e = true) (h4 : isE T N sc e e' = true) :
    PS X (.Assign [.Name x py] e' pos) (tS B G Wx (.own i e)) :=
  PS.imp ((s_asg c tk h1 h2 h3 h4).2 hf) fun D σ H ⟨sa, Hs0, H0, rs0, Hs, rs, ρ, sr, p⟩ => by
    unfold execS at p
    refine toFS sr p fun d Hs1 H1 rs1 v e1 sr1 r1 p => ?_
    cases d <;> first | exact (show False from p).elim | skip
    · obtain ⟨a, rfl, ha, ho⟩ := r1
      refine Post.ok' p sr1.ext _ (sr1.own (up_none sr.ext ha) rfl ho fun j t e o z => ?_)
      exact sr.far ha j t e o z
    · obtain ⟨a, rfl, ha, ho⟩ := r1
      refine Post.ok' p sr1.ext _ (sr1.own (up_none sr.ext ha) rfl ho fun j t e o z => ?_)
      exact sr.far ha j t e o z
theorem s_un (c : CxS T B G k N sc X) (tk : Takes X (cW Wx)) {is : List Nat} {es : List Expr} {n : Nat} {pt pos : Pos} {e : E} {e' : Expr} (h1 : plainV e' = true) (h2 : notTup e' = true) (h3 : isTgs N sc sc is es = true) (h4 : isE T N sc e e' = true) :
    PS X (.Assign [.Tuple es n pt] e' pos) (tS B G Wx (.un is e)) := by
  have snd := soundE e sc X (cW Wx) e' c.ok tk h4
  obtain ⟨q1, q2, q3⟩ := tgs_ok (N := N) (scope := sc) (rel := sc) (X := X) ⟨by rw [c.ok.hN]; exact c.ok.nd, c.ok.hN, c.ok.hsc, fun x _ => c.fn x, c.ok.calm⟩ is es h3
  refine PS.imp (ps_asg (snd.pe false) (pg_tup c.ok.calm q1 q2 q3) (by cases e' <;> first | rfl | cases h1) (by cases e' <;> first | rfl | cases h2) rfl) fun D σ H ⟨sa, Hs0, H0, rs0, Hs, rs, ρ, sr, p⟩ => ?_
  unfold execS at p
  refine toES sr p fun d Hs1 H1 rs1 v e1 sr1 r1 p => ?_
  cases d <;> first | exact (show False from p).elim | skip
  rename_i ds
  dsimp only at p
  cases hp : putAll is ds ρ with
  | none => rw [hp] at p; exact (show False from p).elim
  | some ρ' =>
    rw [hp] at p
    obtain ⟨a, vs, rfl, h5, h6⟩ := r1
    refine ⟨a, vs, rfl, SqT.of (sr1.wd.sub _ _ h5), by rw [← h6.length, (putAll_len _ _ _ _ hp).1], ?_⟩
    exact putAll_ok is ds vs sr1 hp h6 fun σ' _ _ sr' => Post.ok' p sr1.ext _ sr'
theorem ipAug (op : Bop) : PIp X (bopOp op) (fun x y H Q => ∃ i j z, x = .int i ∧ y = .int j ∧ evalAug op (.int i) (.int j) = some (.int z) ∧ Q (.int z) H) := by
  intro pins s σ H x y v u Q I r1 r2 ⟨i, j, z, e1, e2, e3, q⟩
  cases op <;> first | (cases e3; done) | skip
  · cases e3
    exact ip_add pins s σ H x y v u Q I r1 r2 ⟨i, j, e1, e2, q⟩
  · cases e3
    exact ip_sub pins s σ H x y v u Q I r1 r2 ⟨i, j, e1, e2, q⟩
theorem evalAug_ints {op : Bop} {x y z : D} (h : evalAug op x y = some z) : ∃ i j l, x = .int i ∧ y = .int j ∧ z = .int l := by
  cases op <;> cases x <;> cases y <;> first | (cases h; done) | (cases h; exact ⟨_, _, _, rfl, rfl, rfl⟩)
theorem s_aug (c : CxS T B G k N sc X) (tk : Takes X (cW Wx)) {i : Nat} {x : Str} {py pos : Pos} {op : Bop} {e : E} {e' : Expr} (h1 : N[i]? = some x) (h2 : locB sc x = true) (h4 : isE T N sc e e' = true) :
    PS X (.AugAssign (.Name x py) (bopOp op) e' pos) (tS B G Wx (.aug i op e)) := by
  have snd := soundE e sc X (cW Wx) e' c.ok tk h4
  refine PS.imp (ps_aug (by rw [c.ok.hN]; exact c.ok.nd) (by rw [c.ok.hN]; exact h1) (by rw [c.ok.hsc]; exact locB_of h2) (snd.pe true) (ipAug op) (.inl (c.fn x))) fun D σ H ⟨sa, Hs0, H0, rs0, Hs, rs, ρ, sr, p⟩ => ?_
  unfold execS at p
  cases hr : ρ[i]? with
  | none => rw [hr] at p; exact (show False from p).elim
  | some o =>
    rw [hr] at p
    cases o with
    | none => exact (show False from p).elim
    | some s =>
      cases s with
      | ol xs => exact (show False from p).elim
      | od t ks vs => exact (show False from p).elim
      | d x =>
        obtain ⟨v, hv, rv⟩ := sr.slot i _ hr
        refine ⟨v, hv, toES sr p fun d Hs1 H1 rs1 w e1 sr1 r1 p => ?_⟩
        cases hz : evalAug op x d with
        | none => rw [hz] at p; exact (show False from p).elim
        | some z =>
          rw [hz] at p
          obtain ⟨i1, j1, l1, rfl, rfl, rfl⟩ := evalAug_ints hz
          obtain rfl : v = .int i1 := rv
          obtain rfl := rpo_int r1.o
          exact ⟨i1, j1, l1, rfl, rfl, hz, Post.ok' p sr1.ext _ (sr1.put i rfl)⟩
theorem s_drop (c : CxS T B G k N sc X) (tk : Takes X (cW Wx)) {pos : Pos} {e : E} {e' : Expr} (h1 : plainV e' = true) (h4 : isE T N sc e e' = true) : PS X (.Expr e' pos) (tS B G Wx (.drop e)) := by
  have snd := soundE e sc X (cW Wx) e' c.ok tk h4
  refine PS.imp (ps_expr (snd.pe true) (swaps_plain h1 _ _ _)) fun D σ H ⟨sa, Hs0, H0, rs0, Hs, rs, ρ, sr, p⟩ => ?_
  unfold execS at p
  exact toES sr p fun d Hs1 H1 rs1 v e1 sr1 r1 p => Post.ok' p sr1.ext _ sr1
theorem s_ret (c : CxS T B G k N sc X) (tk : Takes X (cW Wx)) {pos : Pos} {e : E} {e' : Expr} (h4 : isE T N sc e e' = true) : PS X (.Return (some e') pos) (tS B G Wx (.ret e)) := by
  have snd := soundE e sc X (cW Wx) e' c.ok tk h4
  refine PS.imp (ps_ret (snd.pe false)) fun D σ H ⟨sa, Hs0, H0, rs0, Hs, rs, ρ, sr, p⟩ => ?_
  unfold execS at p
  exact toES sr p fun d Hs1 H1 rs1 v e1 sr1 r1 p => Post.ok' p sr1.ext _ r1
theorem s_app (c : CxS T B G k N sc X) (tk : Takes X (cW Wx)) {i : Nat} {x : Str} {px ap cp pos : Pos} {e : E} {e' : Expr} (h1 : N[i]? = some x) (h2 : visB sc x = true) (h3 : nameOk x = true) (hl : (ap.endLine == cp.line) = true) (ok : okX e' = true) (h4 : isE T N sc e e' = true) :
    PS X (.Expr (.Call (.Attribute (.Name x px) "append" ap) [e'] [] cp) pos) (tS B G Wx (.app i e)) := by
  have snd := soundE e sc X (cW Wx) e' c.ok tk h4
  obtain ⟨n1, n2, n3⟩ := nameOk1 h3
  have hv : PE X (.Name x px) (tVar i) := pe_var (by rw [c.ok.hN]; exact h1) (by rw [c.ok.hsc]; exact vis_of h2) n1 n2
  refine PS.imp (ps_expr (pe_bm PySem.F.plainAttrs_list PySem.F.slot_list_append PySem.F.type_list_append mt_append hv (pa_cons (snd.pe false) pa_nil (starEach_ok ok)) rfl (few1 ok cp) hl (starEach_ok ok) rfl) rfl) fun D σ H ⟨sa, Hs0, H0, rs0, Hs, rs, ρ, sr, p⟩ => ?_
  unfold execS at p
  cases hr : ρ[i]? with
  | none => rw [hr] at p; exact (show False from p).elim
  | some o =>
    rw [hr] at p
    cases o with
    | none => exact (show False from p).elim
    | some s =>
      cases s with
      | d x => exact (show False from p).elim
      | od t ks vs => exact (show False from p).elim
      | ol xs =>
        obtain ⟨v, hv, a, rfl, h0, hs, vs, ha, rv⟩ := sr.slot i _ hr
        refine ⟨.ref a, hv, .inl ⟨rfl, vs, SqL.of ha⟩, ?_⟩
        refine toES sr p fun d Hs1 H1 rs1 w e1 sr1 r1 p => ?_
        have na : a ≠ sa := fun z => sr.sne (z ▸ h0)
        have ha1 := e1.keep a _ (.inl na) ha
        have hs1 := e1.new a _ hs ha (fun _ z => by cases z)
        split at p
        · rename_i hlt
          refine ⟨a, vs, w, rfl, rfl, ha1, by rw [← rv.length, ← lim_eq]; exact hlt, ?_⟩
          have own' : OwnAt B sa Hs1 (upd H1 a (.lst (vs ++ [w]))) a (.ol (xs ++ [d])) := ⟨hs1, vs ++ [w], upd_same, Rps.append (Rps.mono e1.ss _ _ rv) (Rps.one r1)⟩
          have sr2 := sr1.ownUpd hr rfl hv h0 hs1 rfl own'
          exact Post.ok' p sr2.ext _ sr2
        · exact (show False from p).elim
theorem s_rem (c : CxS T B G k N sc X) (tk : Takes X (cW Wx)) {i : Nat} {x : Str} {px ap cp pos : Pos} {e : E} {e' : Expr} (h1 : N[i]? = some x) (h2 : visB sc x = true) (h3 : nameOk x = true) (hl : (ap.endLine == cp.line) = true) (ok : okX e' = true) (h4 : isE T N sc e e' = true) :
    PS X (.Expr (.Call (.Attribute (.Name x px) "remove" ap) [e'] [] cp) pos) (tS B G Wx (.rem i e)) := by
  have snd := soundE e sc X (cW Wx) e' c.ok tk h4
  obtain ⟨n1, n2, n3⟩ := nameOk1 h3
  have hv : PE X (.Name x px) (tVar i) := pe_var (by rw [c.ok.hN]; exact h1) (by rw [c.ok.hsc]; exact vis_of h2) n1 n2
  refine PS.imp (ps_expr (pe_bm PySem.F.plainAttrs_list PySem.F.slot_list_remove PySem.F.type_list_remove (mt_removeD c.ok.hK c.ok.units) hv (pa_cons (snd.pe true) pa_nil (starEach_ok ok)) rfl (few1 ok cp) hl (starEach_ok ok) rfl) rfl) fun D σ H ⟨sa, Hs0, H0, rs0, Hs, rs, ρ, sr, p⟩ => ?_
  unfold execS at p
  cases hr : ρ[i]? with
  | none => rw [hr] at p; exact (show False from p).elim
  | some o =>
    rw [hr] at p
    cases o with
    | none => exact (show False from p).elim
    | some s =>
      cases s with
      | d x => exact (show False from p).elim
      | od t ks vs => exact (show False from p).elim
      | ol xs =>
        obtain ⟨v, hv, a, rfl, h0, hs, vs, ha, rv⟩ := sr.slot i _ hr
        refine ⟨.ref a, hv, .inl ⟨rfl, vs, SqL.of ha⟩, ?_⟩
        refine toES sr p fun d Hs1 H1 rs1 w e1 sr1 r1 p => ?_
        have na : a ≠ sa := fun z => sr.sne (z ▸ h0)
        have ha1 := e1.keep a _ (.inl na) ha
        have hs1 := e1.new a _ hs ha (fun _ z => by cases z)
        have rv1 := Rps.mono e1.ss _ _ rv
        cases hz : remD d xs with
        | none => rw [hz] at p; exact (show False from p).elim
        | some ys =>
          rw [hz] at p
          unfold remD at hz
          cases hp : d.py with
          | none => rw [hp] at hz; cases hz
          | some q =>
            cases hl : Mp.D.pys xs with
            | none => rw [hp, hl] at hz; cases hz
            | some l =>
              rw [hp, hl] at hz
              dsimp only at hz
              split at hz
              case isFalse => cases hz
              case isTrue hd =>
              cases hj : l.findIdx? fun y => PyData.eqv y q with
              | none => rw [hj] at hz; cases hz
              | some j =>
                rw [hj] at hz
                cases hz
                refine ⟨a, vs, w, q, l, j, rfl, rfl, ha1, Rps.dp xs vs l (Rps.mono sr1.wd.sub _ _ rv1) hl, rpo_dp sr1.wd.sub r1.o hp, Mp.D.pys_plain _ _ hl, Mp.D.py_plain _ _ hp, hd.2, hd.1, hj, ?_⟩
                have own' : OwnAt B sa Hs1 (upd H1 a (.lst (vs.eraseIdx j))) a (.ol (xs.eraseIdx j)) := ⟨hs1, _, upd_same, rv1.eraseIdx j⟩
                have sr2 := sr1.ownUpd hr rfl hv h0 hs1 rfl own'
                exact Post.ok' p sr2.ext _ sr2
theorem s_mov (c : CxS T B G k N sc X) {i j : Nat} {x y : Str} {px py pos : Pos} (h1 : N[i]? = some x) (h2 : locB sc x = true) (h3 : N[j]? = some y) (h4 : visB sc y = true) (h5 : nameOk y = true) :
    PS X (.Assign [.Name x px] (.Name y py) pos) (tS B G Wx (.mov i j)) := by
  obtain ⟨n1, n2, n3⟩ := nameOk1 h5
  have hv : PE X (.Name y py) (tVar j) := pe_var (by rw [c.ok.hN]; exact h3) (by rw [c.ok.hsc]; exact vis_of h4) n1 n2
  refine PS.imp (ps_set (by rw [c.ok.hN]; exact c.ok.nd) (by rw [c.ok.hN]; exact h1) (by rw [c.ok.hsc]; exact locB_of h2) hv (swaps_plain rfl _ _ _) (.inl (c.fn x))) fun D σ H ⟨sa, Hs0, H0, rs0, Hs, rs, ρ, sr, p⟩ => ?_
  unfold execS at p
  cases hr : ρ[j]? with
  | none => rw [hr] at p; exact (show False from p).elim
  | some o =>
    rw [hr] at p
    cases o with
    | none => exact (show False from p).elim
    | some s =>
      dsimp only at p
      split at p
      case isFalse => exact (show False from p).elim
      case isTrue hc =>
      rw [Bool.and_eq_true, Bool.not_eq_true', decide_eq_false_iff_not] at hc
      obtain ⟨os, hij⟩ := hc
      have os : s.isOwn = true := by cases s <;> first | rfl | cases os
      obtain ⟨v, hv, a, rfl, h0, ho⟩ : ∃ v, σ[j]? = some (some v) ∧ ∃ a, v = .ref a ∧ H0 a = none ∧ OwnAt B sa Hs H a s := by
        obtain ⟨v, h1, h2⟩ := sr.slot j s hr
        refine ⟨v, h1, ?_⟩
        cases s with
        | d x => cases os
        | ol xs => exact h2
        | od t ks vs => exact h2
      have ha : ∃ o, H a = some o ∧ Hs a = none := by
        cases s with
        | d x => cases os
        | ol xs => obtain ⟨q1, vs, q2, _⟩ := ho; exact ⟨_, q2, q1⟩
        | od t ks vs => cases t <;> (obtain ⟨q1, kk, vs, q2, _⟩ := ho; exact ⟨_, q2, q1⟩)
      obtain ⟨o, ha, hs⟩ := ha
      have sr1 : SR B sa Hs0 H0 rs0 Hs H rs (ρ.set j none) σ := by
        have := sr.hide (o := o) hr os hv h0 hs
        rw [show upd H a o = H from by funext b; by_cases hb : b = a
                                       · rw [hb, upd_same, ha]
                                       · rw [upd_ne hb]] at this
        exact this
      have hlt : j < ρ.length := (List.getElem?_eq_some_iff.mp hr).1
      refine ⟨.ref a, hv, ?_⟩
      have sr2 := sr1.own (i := i) h0 os ho fun l t e ot z => by
        by_cases hl : j = l
        · subst hl; rw [List.getElem?_set_self hlt] at e; cases e
        · rw [List.getElem?_set_ne hl] at e
          exact hl (sr.apart j l s t (.ref a) hr e os ot hv z)
      exact Post.ok' p sr2.ext _ sr2
/-! o[i] = v -/
theorem set_dict (hu : X.A.units + 64 < cLine) : PSet X (fun o i v H Q => ∃ a H4, o = .ref a ∧ DPut H a i v H4 ∧ Q H4) := by
  intro pins s σ H o i v ov iv u Q I ro ri rv ⟨a, H4, e, g, q⟩
  subst e
  obtain rfl : ov = Value.ref a := ro
  exact d_setItem (by show X.A.units + 1 < cLine; omega) I g ri rv fun s4 I4 => ⟨H4, I4, q⟩
def rSetM : V → V → V → Hp → (Hp → Prop) → Prop := fun o i v H Q => rSetL o i v H Q ∨ ∃ a H4, o = .ref a ∧ DPut H a i v H4 ∧ Q H4
theorem set_any (hu : X.A.units + 64 < cLine) : PSet X rSetM := by
  intro pins s σ H o i v ov iv u Q I ro ri rv h
  rcases h with h | h
  · exact set_list pins s σ H o i v ov iv u Q I ro ri rv h
  · exact set_dict hu pins s σ H o i v ov iv u Q I ro ri rv h
theorem assignSub {o i : Expr} {pos : Pos} (h : okX i = true) {env : PySem.Env} : ∀ v, assign (.Subscript o i pos) env v = (do
      let ov ← holding [v] (eval o env)
      let iv ← holding [v, ov] (eval i env)
      standAt pos
      holding [v, ov, iv] (setItem ov iv v)
      release [v, ov, iv] []) := by
  intro v
  cases i <;> first | rfl | cases h
/-- keys of a dict, a put -/
theorem put_keys {κ : Type} [DecidableEq κ] {f : κ → D} (hf : ∀ a b, D.eq (f a) (f b) = some (decide (a = b))) {cn : Nat → Option (Addr × List Str)} {K : PySem.W.Frag} {sa : Addr} {H : Hp} {kk : List κ} {ks ds : List D} {vs : List V} {k : κ} {d : D} {v : V} {ks' ds' : List D}
    (hl : kk.length = vs.length) (hk : ks = kk.map f) (r : Rps K cn sa H ds vs) (rd : Rp K cn sa H d v) (h1 : dputK (f k) ks = some ks') (h2 : dputV (f k) d ks ds = some ds') (hin : ∀ b, inD (f k) ks = some b → b = (valV (kk.zip vs) k).isSome) :
    ∃ (kk' : List κ) (vs' : List V), putK (kk.zip vs) k v = kk'.zip vs' ∧ kk'.length = vs'.length ∧ ks' = kk'.map f ∧ Rps K cn sa H ds' vs' := by
  unfold dputK at h1
  unfold dputV at h2
  cases hb : inD (f k) ks with
  | none => rw [hb] at h1; cases h1
  | some b =>
    rw [hb] at h1 h2
    have hv := hin b hb
    cases b with
    | false =>
      cases h1
      cases h2
      have hn : valV (kk.zip vs) k = none := by
        cases q : valV (kk.zip vs) k with
        | none => rfl
        | some _ => rw [q] at hv; cases hv
      refine ⟨kk ++ [k], vs ++ [v], ?_, by simp [hl], by simp [hk], Rps.append r (Rps.one rd)⟩
      rw [putK_new v hn, List.zip_append hl]; rfl
    | true =>
      cases h1
      cases h2
      have ha : ((kk.zip vs).any fun kv => decide (kv.1 = k)) = true := by rw [valV_any]; exact hv.symm
      refine ⟨kk, List.zipWith (fun x w => if x = k then v else w) kk vs, ?_, by simp [hl], hk, ?_⟩
      · unfold putK
        rw [if_pos ha]
        clear ha hv hb hin r hk
        induction kk generalizing vs with
        | nil => rfl
        | cons x kk ih =>
          cases vs with
          | nil => simp at hl
          | cons w vs =>
            simp only [List.zip_cons_cons, List.map_cons, List.zipWith_cons_cons]
            rw [ih (by simpa using hl)]
            by_cases hx : x = k
            · simp [hx]
            · simp [hx]
      · subst hk
        clear ha hv hb hin
        induction kk generalizing vs ds with
        | nil => simp [Rps]
        | cons x kk ih =>
          cases vs with
          | nil => simp at hl
          | cons w vs =>
            cases ds with
            | nil => cases r
            | cons e ds =>
              obtain ⟨w', r', q1, q2, q3⟩ := r
              cases q1
              simp only [List.map_cons, List.zipWith_cons_cons, hf]
              refine ⟨_, _, rfl, ?_, ih (by simpa using hl) q3⟩
              by_cases hx : x = k
              · simp [hx]; exact rd
              · simp [hx]; exact q2
theorem inD_val {κ : Type} [DecidableEq κ] {f : κ → D} (hf : ∀ a b, D.eq (f a) (f b) = some (decide (a = b))) {sa : Addr} {H : Hp} {kk : List κ} {ds : List D} {vs : List V} {k : κ} (hl : kk.length = vs.length) (r : Rps B.K B.cn sa H ds vs) :
    ∀ b, inD (f k) (kk.map f) = some b → b = (valV (kk.zip vs) k).isSome := by
  intro b hb
  unfold inD at hb
  cases e1 : (f k).py with
  | none => rw [e1] at hb; cases hb
  | some a =>
    cases e2 : D.pys (kk.map f) with
    | none => rw [e1, e2] at hb; cases hb
    | some l =>
      rw [e1, e2] at hb
      dsimp only at hb
      split at hb
      · cases hb
        exact (dget_valV hf k kk ds vs hl r).2 _ ⟨l, a, e2, e1, rfl⟩
      · cases hb
theorem s_put (c : CxS T B G k N sc X) (tk : Takes X (cW Wx)) {i : Nat} {x : Str} {px pi pos : Pos} {kx e : E} {k' e' : Expr} (h1 : N[i]? = some x) (h2 : visB sc x = true) (h3 : nameOk x = true) (ok : okX k' = true) (hk : isE T N sc kx k' = true) (h4 : isE T N sc e e' = true) :
    PS X (.Assign [.Subscript (.Name x px) k' pi] e' pos) (tS B G Wx (.put i kx e)) := by
  have snd := soundE e sc X (cW Wx) e' c.ok tk h4
  have snk := soundE kx sc X (cW Wx) k' c.ok tk hk
  obtain ⟨n1, n2, n3⟩ := nameOk1 h3
  have hv : PE X (.Name x px) (tVar i) := pe_var (by rw [c.ok.hN]; exact h1) (by rw [c.ok.hsc]; exact vis_of h2) n1 n2
  refine PS.imp (ps_asg (snd.pe false) (pg_sub hv (snk.pe true) (set_any c.ok.units) (assignSub ok)) (by cases e' <;> rfl) (by cases e' <;> rfl) rfl) fun D σ H ⟨sa, Hs0, H0, rs0, Hs, rs, ρ, sr, p⟩ => ?_
  unfold execS at p
  refine toES sr p fun d Hs1 H1 rs1 w e1 sr1 r1 p => ?_
  cases hr : ρ[i]? with
  | none => rw [hr] at p; exact (show False from p).elim
  | some o =>
    rw [hr] at p
    cases o with
    | none => exact (show False from p).elim
    | some s =>
      obtain ⟨u, hu, ru⟩ := sr1.slot i s hr
      refine ⟨u, hu, ?_⟩
      have gen : ∀ (s : SV) (a : Addr), s.isOwn = true → ρ[i]? = some (some s) → σ[i]? = some (some (.ref a)) → H0 a = none → OwnAt B sa Hs1 H1 a s →
          Post B sa Wx Hs0 H0 rs0 (M.bind (evalE G true kx ρ) (fun kk => (match putIx s kk d with | some sv' => M.ok (.nx (ρ.set i (some sv'))) | none => M.stuck)) rs1) (OutOk B sa Hs0 H0 rs0 D) →
          tE B G (cW Wx) true kx σ H1 fun i H2 => rSetM (.ref a) i w H2 fun H3 => D.nx σ H3 := by
        intro s a os hr hu h0 ho p
        have na : a ≠ sa := fun z => sr.sne (z ▸ h0)
        refine toES sr1 p fun kd Hs2 H2 rs2 kv e2 sr2 r2 p' => ?_
        clear p
        have r1' : Rp B.K B.cn sa Hs2 d w := by
          unfold RpB at r1
          rw [if_neg (by simp)] at r1
          exact Rp.mono e2.ss _ _ r1
        have ho2 := ho.mono e2 na
        cases hp : putIx s kd d with
        | none => rw [hp] at p'; exact (show False from p').elim
        | some s' =>
          rw [hp] at p'
          cases s with
          | d x => cases os
          | ol xs =>
            obtain ⟨hs2, vs, ha2, rv⟩ := ho2
            cases kd <;> first | (cases hp; done) | skip
            rename_i n
            unfold putIx at hp
            dsimp only at hp
            cases hj : ixN xs.length n with
            | none => rw [hj] at hp; cases hp
            | some j =>
              rw [hj] at hp
              cases hp
              obtain rfl := rpo_int r2.o
              have own' : OwnAt B sa Hs2 (upd H2 a (.lst (vs.set j w))) a (.ol (xs.set j d)) := ⟨hs2, _, upd_same, Rps.set r1' j rv⟩
              have sr3 := sr2.ownUpd hr rfl hu h0 hs2 rfl own'
              exact .inl ⟨a, vs, n, j, rfl, rfl, ha2, by rw [← rv.length]; exact hj, Post.ok' p' sr3.ext _ sr3⟩
          | od t ks ds =>
            unfold putIx at hp
            dsimp only at hp
            split at hp
            case isFalse => cases hp
            case isTrue hc =>
            rw [Bool.and_eq_true, decide_eq_true_eq] at hc
            cases q1 : dputK kd ks with
            | none => rw [q1] at hp; cases hp
            | some ks' =>
              cases q2 : dputV kd d ks ds with
              | none => rw [q1, q2] at hp; cases hp
              | some ds' =>
                rw [q1, q2] at hp
                cases hp
                cases t with
                | false =>
                  obtain ⟨hs2, kk, vs, ha2, hl, rfl, rv⟩ := ho2
                  obtain ⟨key, rfl⟩ := keyK hc.1
                  have ey : kv = kV key := by
                    cases key with
                    | inl i => exact rpo_int r2.o
                    | inr i => exact rpo_str r2.o
                  obtain ⟨kk', vs', z1, z2, z3, z4⟩ := put_keys kD_eq hl rfl rv r1' q1 q2 (inD_val kD_eq hl rv)
                  have own' : OwnAt B sa Hs2 (upd H2 a (.dK (putK (kk.zip vs) key w))) a (.od false ks' ds') := ⟨hs2, kk', vs', by rw [upd_same, z1], z2, z3, z4⟩
                  have sr3 := sr2.ownUpd hr rfl hu h0 hs2 rfl own'
                  refine .inr ⟨a, _, rfl, ey ▸ DPut.k ha2 ?_, Post.ok' p' sr3.ext _ sr3⟩
                  rw [List.length_zip, ← hl, Nat.min_self, ← lim_eq]
                  simpa using hc.2
                | true =>
                  obtain ⟨hs2, kk, vs, ha2, hl, rfl, rv⟩ := ho2
                  obtain ⟨key, rfl⟩ := keyT hc.1
                  obtain ⟨b, ws, rfl, h7, h8⟩ := rpo_tup sr2.wd.sub r2.o
                  have ew : ws = key.map kV := rps_keys h8
                  obtain ⟨kk', vs', z1, z2, z3, z4⟩ := put_keys kDs_eq hl rfl rv r1' q1 q2 (inD_val kDs_eq hl rv)
                  have own' : OwnAt B sa Hs2 (upd H2 a (.dT (putK (kk.zip vs) key w))) a (.od true ks' ds') := ⟨hs2, kk', vs', by rw [upd_same, z1], z2, z3, z4⟩
                  have sr3 := sr2.ownUpd hr rfl hu h0 hs2 rfl own'
                  refine .inr ⟨a, _, rfl, DPut.t ha2 (ew ▸ h7) ?_, Post.ok' p' sr3.ext _ sr3⟩
                  rw [List.length_zip, ← hl, Nat.min_self, ← lim_eq]
                  simpa using hc.2
      cases s with
      | ol xs =>
        obtain ⟨a, rfl, h0, ho⟩ := ru
        exact gen _ a rfl hr hu h0 ho p
      | od t ks ds =>
        obtain ⟨a, rfl, h0, ho⟩ := ru
        exact gen _ a rfl hr hu h0 ho p
      | d y =>
        have hy : y = .st ∨ y ≠ .st := by cases y <;> first | exact .inl rfl | exact .inr (by intro z; cases z)
        rcases hy with rfl | hy
        · obtain rfl : u = .ref sa := ru
          refine toES sr1 p fun kd Hs2 H2 rs2 kv e2 sr2 r2 p => ?_
          cases rs2 with
          | none => exact (show False from p).elim
          | some l =>
            cases kd <;> first | exact (show False from p).elim | skip
            rename_i n
            have p : Post B sa Wx Hs0 H0 rs0 (match ixN l.length n with | some j => Res.ok (.nx ρ) (some (l.set j d)) | none => .stuck) (OutOk B sa Hs0 H0 rs0 D) := p
            cases hj : ixN l.length n with
            | none => rw [hj] at p; exact p.elim
            | some j =>
              rw [hj] at p
              obtain rfl := rpo_int r2.o
              obtain ⟨q1, vs, q2, q3⟩ := sr2.wd.reg l rfl
              have r1' : Rp B.K B.cn sa Hs2 d w := by
                unfold RpB at r1
                rw [if_neg (by simp)] at r1
                exact Rp.mono e2.ss _ _ r1
              have sr3 := sr2.regUpd rfl (Rps.set r1' j q3)
              exact .inl ⟨sa, vs, n, j, rfl, rfl, q2, by rw [← q3.length]; exact hj, p _ _ sr3.ext _ sr3⟩
        · cases y <;> first | exact absurd rfl hy | exact (show False from p).elim
end
end Mp

set_option Elab.async false
set_option linter.all false
set_option maxRecDepth 100000
set_option maxHeartbeats 4000000
/-! Mp, part 18.4: raise, try: sound. -/
namespace Mp
open PySem PySem.Spec L2
section
variable {T : Tab} {B : Bd} {G : Cfg} {k : Nat} {N : List Str} {sc : Scope} {X : Cx} {Wx : XK}
/-- what the field of an error is -/
theorem exr_fld {sa : Addr} {Hs H : Hp} {rs : Rg} {c : Nat} {d : D} {cls : Value} {dd : Option Addr} {f : Str} {C : Addr} (w : Wd B sa Hs H rs) (h : ExR B sa Hs c d cls dd) (hx : B.xc c = some (C, some f)) : cls = .ref C ∧ ∃ dx v, dd = some dx ∧ H dx = some (.xd [(f, v)]) ∧ Rp B.K B.cn sa Hs d v := by
  obtain ⟨C', fo, h1, rfl, h2⟩ := h
  rw [hx] at h1; cases h1
  obtain ⟨dx, v, rfl, h3, h4⟩ := h2
  exact ⟨rfl, dx, v, rfl, w.sub _ _ h3, h4⟩
/-! ### raise -/
theorem s_raise (c : CxS T B G k N sc X) (tk : Takes X (cW Wx)) {cc : Nat} {e : E} {x : Str} {a' : Expr} {p cp pos : Pos} (hc : x = xnm cc) (hm : T.xs.contains cc = true) (hg : glB sc x = true) (hn : nameOk x = true) (ok : okX a' = true) (he : isE T N sc e a' = true)
    (hf : ((xfd cc).isSome || isStrC a') = true) : PS X (.Raise (some (.Call (.Name x p) [a'] [] cp)) none pos) (tS B G Wx (.raise cc e)) := by
  obtain ⟨C, xi⟩ := c.xcs cc hm
  obtain ⟨n1, n2, n3⟩ := nameOk1 hn
  subst hc
  have mk := xi.how
  cases hx : xfd cc with
  | none =>
    rw [hx] at mk hf
    have hs : ∃ m j p2, a' = .Constant (.str m) j p2 := by
      have hf : isStrC a' = true := by simpa using hf
      unfold isStrC at hf
      split at hf
      · exact ⟨_, _, _, rfl⟩
      · cases hf
    obtain ⟨m, j, p2, rfl⟩ := hs
    have pk := pmk_own (X := X) (m := m) (j := j) (p := p) (p2 := p2) (pos := cp) PySem.F.excBase_ValueError (by rw [c.ok.hK]; exact mk) xi.gC (by rw [c.ok.hK]; exact xi.kC) (raises_own (by rw [c.ok.hK]; exact xi.exC) (by rw [c.ok.hK]; exact xi.tyC)) (c.ok.gl hg) n1
    have he' : e = .kstr m := by
      cases e <;> (unfold isE at he; first | (cases he; done) | skip)
      · rename_i s0
        have : s0 = m := by simpa using he
        rw [this]
    subst he'
    refine PS.imp (ps_raise c.ok.calm tk pk) fun D σ H ⟨sa, Hs0, H0, rs0, Hs, rs, ρ, sr, q⟩ => ?_
    have q : Post B sa Wx Hs0 H0 rs0 (M.exc (α := Out) cc (.str m) rs) (OutOk B sa Hs0 H0 rs0 D) := q
    exact q Hs H (.ref C) none sr.ext ⟨C, none, by rw [xi.xc, hx], rfl, rfl⟩
  | some f =>
    rw [hx] at mk
    obtain ⟨T1, T2⟩ := mk
    have snd := soundE e sc X (cW Wx) a' c.ok tk he
    rw [← c.ok.hK] at T1
    refine PS.imp (ps_raise c.ok.calm tk (pmk_flt T1 c.ok.room (pa_cons (snd.pe false) pa_nil (starEach_ok ok)) (c.ok.gl hg) n1 (starEach_ok ok))) fun D σ H ⟨sa, Hs0, H0, rs0, Hs, rs, ρ, sr, q⟩ => ?_
    refine toES sr q fun d Hs1 H1 rs1 v e1 sr1 r1 q => ?_
    have rv : Rp B.K B.cn sa Hs1 d v := by
      unfold RpB at r1
      rw [if_neg (by simp)] at r1
      exact r1
    refine ⟨v, rfl, fun dx hdx => ?_⟩
    have e2 := sr1.wd.alloc (o := .xd [(f, v)]) hdx
    have q : Post B sa Wx Hs0 H0 rs0 (M.exc (α := Out) cc d rs1) (OutOk B sa Hs0 H0 rs0 D) := q
    exact q _ _ (.ref C) (some dx) (sr1.ext.trans e2) ⟨C, some f, by rw [xi.xc, hx], rfl, dx, v, rfl, upd_same, Rp.mono e2.ss _ _ rv⟩
end
end Mp

set_option Elab.async false
set_option linter.all false
set_option maxRecDepth 100000
set_option maxHeartbeats 4000000
/-! Mp, part 18.5: try: sound. -/
namespace Mp
open PySem PySem.Spec L2
section
variable {T : Tab} {B : Bd} {G : Cfg} {k : Nat} {N : List Str} {sc : Scope} {X : Cx} {W : WX}
/-! ### a try's body -/
def OutF (B : Bd) (sa : Addr) (D : Ends) (σ : L2.St) : Out → Hp → Hp → Rg → Prop
  | .nx _, _, H, _ => D.nx σ H
  | .ret d, Hs, H, _ => ∀ v, Rp B.K B.cn sa Hs d v → D.rt v H
  | _, _, _, _ => False
def tFl (B : Bd) (W : WX) (f : Env → M Out) : TS := fun D σ H => ∃ sa Hs0 H0 rs0 Hs rs ρ, SR B sa Hs0 H0 rs0 Hs H rs ρ σ ∧ Post B sa (fun cls dd H' => W cls dd σ H') Hs H rs (f ρ rs) (OutF B sa D σ)
def atS (ρ : Env) (o : Out) : Prop := o = .nx ρ ∨ ∃ d, o = .ret d
theorem bind_inv {α β : Type} {m : M α} {f : α → M β} {rs rs' : Rg} {b : β} (h : M.bind m f rs = .ok b rs') : ∃ a rs1, m rs = .ok a rs1 ∧ f a rs1 = .ok b rs' := by
  unfold M.bind at h
  cases e : m rs with
  | ok a rs1 => rw [e] at h; exact ⟨a, rs1, rfl, h⟩
  | exc c d rs1 => rw [e] at h; cases h
  | stuck => rw [e] at h; cases h
mutual
theorem flatS_at : ∀ (s : S) (ρ : Env) (rs : Rg) (o : Out) (rs' : Rg), flatS s = true → execS G s ρ rs = .ok o rs' → atS ρ o
  | .drop e, ρ, rs, o, rs', _, h => by
    unfold execS at h
    obtain ⟨x, r1, _, h⟩ := bind_inv h
    cases h
    exact .inl rfl
  | .ret e, ρ, rs, o, rs', _, h => by
    unfold execS at h
    obtain ⟨x, r1, _, h⟩ := bind_inv h
    cases h
    exact .inr ⟨x, rfl⟩
  | .if_ c a b, ρ, rs, o, rs', hf, h => by
    unfold flatS at hf
    rw [Bool.and_eq_true] at hf
    unfold execS at h
    obtain ⟨x, r1, hx, h⟩ := bind_inv h
    clear hx
    cases x <;> first | (cases h; done) | skip
    rename_i z
    cases z with
    | true => exact flatSs_at a ρ r1 o rs' hf.1 h
    | false => exact flatSs_at b ρ r1 o rs' hf.2 h
  | .set .., _, _, _, _, hf, _ | .own .., _, _, _, _, hf, _ | .un .., _, _, _, _, hf, _ | .swap .., _, _, _, _, hf, _ | .aug .., _, _, _, _, hf, _ | .put .., _, _, _, _, hf, _ | .augIx .., _, _, _, _, hf, _ | .app .., _, _, _, _, hf, _ | .ext .., _, _, _, _, hf, _
  | .pop .., _, _, _, _, hf, _ | .appPop .., _, _, _, _, hf, _ | .setPop .., _, _, _, _, hf, _ | .rem .., _, _, _, _, hf, _ | .mov .., _, _, _, _, hf, _ | .frz .., _, _, _, _, hf, _ | .ret0, _, _, _, _, hf, _ | .while_ .., _, _, _, _, hf, _ | .for_ .., _, _, _, _, hf, _
  | .brk, _, _, _, _, hf, _ | .cont, _, _, _, _, hf, _ | .pass, _, _, _, _, hf, _ | .raise .., _, _, _, _, hf, _ | .try_ .., _, _, _, _, hf, _ | .never, _, _, _, _, hf, _ => by unfold flatS at hf; cases hf
theorem flatSs_at : ∀ (s : Ss) (ρ : Env) (rs : Rg) (o : Out) (rs' : Rg), flatSs s = true → execSs G s ρ rs = .ok o rs' → atS ρ o
  | .nil, ρ, rs, o, rs', _, h => by unfold execSs at h; cases h; exact .inl rfl
  | .cons s r, ρ, rs, o, rs', hf, h => by
    unfold flatSs at hf
    rw [Bool.and_eq_true] at hf
    unfold execSs at h
    obtain ⟨o1, r1, h1, h⟩ := bind_inv h
    rcases flatS_at s ρ rs o1 r1 hf.1 h1 with rfl | ⟨d, rfl⟩
    · exact flatSs_at r ρ r1 o rs' hf.2 h
    · cases h
      exact .inr ⟨d, rfl⟩
end
theorem fl_nil : PSs X [] (tFl B W (execSs G .nil)) := ⟨fun pins s σ H D I ⟨sa, Hs0, H0, rs0, Hs, rs, ρ, sr, p⟩ => pss_nil.run pins s σ H D I (by
  unfold execSs at p
  exact p Hs H sr.wd.refl)⟩
theorem fl_cons {s : S} {r : Ss} {st : Stmt} {l : List Stmt} (hf : flatS s = true) (h1 : PS X st (tFl B W (execS G s))) (h2 : PSs X l (tFl B W (execSs G r))) : PSs X (st :: l) (tFl B W (execSs G (.cons s r))) :=
  PSs.imp (pss_cons h1 h2) fun D σ H ⟨sa, Hs0, H0, rs0, Hs, rs, ρ, sr, p⟩ => by
    have p : Post B sa (fun cls dd H' => W cls dd σ H') Hs H rs (M.bind (execS G s ρ) (fun o => (match o with
      | .nx ρ' => execSs G r ρ'
      | .ret d => M.ok (.ret d)
      | .bk ρ' => M.ok (.bk ρ')
      | .ct ρ' => M.ok (.ct ρ'))) rs) (OutF B sa D σ) := p
    refine ⟨sa, Hs0, H0, rs0, Hs, rs, ρ, sr, ?_⟩
    have q := Post.bindR p
    cases er : execS G s ρ rs with
    | stuck => rw [er] at q; exact q
    | exc c d rs' => rw [er] at q; exact q
    | ok o rs' =>
      rw [er] at q
      intro Hs' H' e
      have q2 := Post.shift e (q Hs' H' e)
      rcases flatS_at s ρ rs o rs' hf er with rfl | ⟨d, rfl⟩
      · exact ⟨sa, Hs0, H0, rs0, Hs', rs', ρ, sr.mono e, q2⟩
      · exact q2 Hs' H' e.wd.refl
mutual
theorem soundF : ∀ (s : S) (X : Cx) (W : WX) (st : Stmt), CxOk T B G k N sc X → Takes X W → flatS s = true → isS T N sc s st = true → PS X st (tFl B W (execS G s))
  | .drop e, X, W, st, c, tk, _, h => by
    unfold isS at h
    split at h
    · simp only [Bool.and_eq_true] at h
      have snd := soundE e sc X W _ c tk h.2
      refine PS.imp (ps_expr (snd.pe true) (swaps_plain h.1 _ _ _)) fun D σ H ⟨sa, Hs0, H0, rs0, Hs, rs, ρ, sr, p⟩ => ?_
      unfold execS at p
      exact toE sr p fun d Hs1 H1 rs1 v e1 sr1 r1 p => p _ _ sr1.wd.refl
    · cases h
  | .ret e, X, W, st, c, tk, _, h => by
    unfold isS at h
    split at h
    · have snd := soundE e sc X W _ c tk h
      refine PS.imp (ps_ret (snd.pe false)) fun D σ H ⟨sa, Hs0, H0, rs0, Hs, rs, ρ, sr, p⟩ => ?_
      unfold execS at p
      exact toE sr p fun d Hs1 H1 rs1 v e1 sr1 r1 p => p _ _ sr1.wd.refl v (by unfold RpB at r1; rw [if_neg (by simp)] at r1; exact r1)
    · cases h
  | .if_ cc a b, X, W, st, c, tk, hf, h => by
    unfold flatS at hf
    rw [Bool.and_eq_true] at hf
    unfold isS at h
    split at h
    · simp only [Bool.and_eq_true] at h
      refine PS.imp (ps_if ((soundE cc sc X W _ c tk h.1.1.2).pt h.1.1.1) (soundFs a X W _ c tk hf.1 h.1.2) (soundFs b X W _ c tk hf.2 h.2)) fun D σ H ⟨sa, Hs0, H0, rs0, Hs, rs, ρ, sr, p⟩ => ?_
      unfold execS at p
      refine toT sr p fun d Hs1 H1 rs1 e1 sr1 p => ?_
      cases d <;> first | exact (show False from p).elim | skip
      rename_i z
      refine ⟨z, rfl, ?_⟩
      cases z with
      | true => rw [if_pos rfl]; exact ⟨sa, Hs0, H0, rs0, Hs1, rs1, ρ, sr1, p⟩
      | false => rw [if_neg (by simp)]; exact ⟨sa, Hs0, H0, rs0, Hs1, rs1, ρ, sr1, p⟩
    · cases h
  | .set .., _, _, _, _, _, hf, _ | .own .., _, _, _, _, _, hf, _ | .un .., _, _, _, _, _, hf, _ | .swap .., _, _, _, _, _, hf, _ | .aug .., _, _, _, _, _, hf, _ | .put .., _, _, _, _, _, hf, _ | .augIx .., _, _, _, _, _, hf, _ | .app .., _, _, _, _, _, hf, _ | .ext .., _, _, _, _, _, hf, _
  | .pop .., _, _, _, _, _, hf, _ | .appPop .., _, _, _, _, _, hf, _ | .setPop .., _, _, _, _, _, hf, _ | .rem .., _, _, _, _, _, hf, _ | .mov .., _, _, _, _, _, hf, _ | .frz .., _, _, _, _, _, hf, _ | .ret0, _, _, _, _, _, hf, _ | .while_ .., _, _, _, _, _, hf, _ | .for_ .., _, _, _, _, _, hf, _
  | .brk, _, _, _, _, _, hf, _ | .cont, _, _, _, _, _, hf, _ | .pass, _, _, _, _, _, hf, _ | .raise .., _, _, _, _, _, hf, _ | .try_ .., _, _, _, _, _, hf, _ | .never, _, _, _, _, _, hf, _ => by unfold flatS at hf; cases hf
theorem soundFs : ∀ (s : Ss) (X : Cx) (W : WX) (l : List Stmt), CxOk T B G k N sc X → Takes X W → flatSs s = true → isSs T N sc s l = true → PSs X l (tFl B W (execSs G s))
  | .nil, X, W, l, c, tk, _, h => by
    unfold isSs at h
    split at h
    · exact fl_nil
    · cases h
  | .cons s r, X, W, l, c, tk, hf, h => by
    unfold flatSs at hf
    rw [Bool.and_eq_true] at hf
    cases l with
    | nil =>
      exfalso
      cases s <;> first | (unfold flatS at hf; cases hf.1; done) | (unfold isSs at h; cases h; done)
    | cons s' r' =>
      have h : (isS T N sc s s' && isSs T N sc r r') = true := by
        cases s <;> first | (unfold flatS at hf; cases hf.1; done) | (unfold isSs at h; exact h)
      rw [Bool.and_eq_true] at h
      exact fl_cons hf.1 (soundF s X W _ c tk hf.1 h.1) (soundFs r X W _ c tk hf.2 h.2)
end
end
/-! ### the suites -/
section
variable {T : Tab} {B : Bd} {G : Cfg} {k : Nat} {N : List Str} {sc : Scope} {X : Cx} {Wx : XK}
theorem exr_mono {sa : Addr} {Hs Hs' : Hp} {c : Nat} {d : D} {cls : Value} {dd : Option Addr} (s : Same Hs Hs') (h : ExR B sa Hs c d cls dd) : ExR B sa Hs' c d cls dd := by
  obtain ⟨C, fo, h1, h2, h3⟩ := h
  refine ⟨C, fo, h1, h2, ?_⟩
  cases fo with
  | none => exact h3
  | some f =>
    obtain ⟨dx, v, q1, q2, q3⟩ := h3
    exact ⟨dx, v, q1, s _ _ q2, Rp.mono s _ _ q3⟩
def tXb (B : Bd) (i : Option Nat) (a : Addr) (cls : Value) (dd : Option Addr) (x : XE) : TE := fun σ H Q => ∃ sa Hs rs c d v', Wd B sa Hs H rs ∧ ExR B sa Hs c d cls dd ∧ (∀ j, i = some j → σ[j]? = some (some (.ref a))) ∧ evalX x c d = some v' ∧
  ∀ Hs' H', Ext B sa Hs H rs Hs' H' rs → ∀ v, Rp B.K B.cn sa Hs' v' v → Q v H'
theorem x_fld (c : CxS T B G k N sc X) {i : Option Nat} {a : Addr} {oe : Obj} {cls : Value} {dd : Option Addr} {pn : List (Addr × Obj)} (hz : Zc cls dd oe) (hf : ∃ vs, oe.data = .fields vs) (kk : Nat) (e' : Expr) (h : isX T N sc i (.fld kk) e' = true) : PE (X.suite a ((a, oe) :: pn)) e' (tXb B i a cls dd (.fld kk)) := by
  unfold isX at h
  split at h
  · rename_i y py f pos j
    simp only [Bool.and_eq_true, decide_eq_true_eq] at h
    obtain ⟨⟨⟨⟨h1, h2⟩, h3⟩, h4⟩, h5⟩ := h
    obtain ⟨n1, n2, n3⟩ := nameOk1 h3
    obtain ⟨C, xi⟩ := c.xcs kk h5
    have mk := xi.how
    rw [h4] at mk
    obtain ⟨T1, T2⟩ := mk
    have hv : PE (X.suite a ((a, oe) :: pn)) (.Name y py) (tVar j) := pe_var (by show X.N[j]? = _; rw [c.ok.hN]; exact h1) (by show Vis X.env.scope y; rw [c.ok.hsc]; exact vis_of h2) n1 n2
    refine PE.imp (pe_xf (X := X) (by rw [c.ok.hK]; exact T2) (by rw [c.ok.hK]; exact T1.noN) hz hf hv) fun σ H Q ⟨sa, Hs, rs, cc, d, v', w, ex, sl, ev, q⟩ => ?_
    unfold evalX at ev
    split at ev
    · rename_i hk
      cases ev
      subst hk
      obtain ⟨ec, dx, v, ed, hd, rv⟩ := exr_fld w ex (by rw [xi.xc, h4])
      exact ⟨_, sl j rfl, rfl, ec, dx, _, v, ed, hd, by simp [List.lookup], q _ _ w.refl v rv⟩
    · cases ev
  · cases h
theorem x_ok (c : CxS T B G k N sc X) {i : Option Nat} {a : Addr} {oe : Obj} {cls : Value} {dd : Option Addr} {pn : List (Addr × Obj)} (hz : Zc cls dd oe) (hf : ∃ vs, oe.data = .fields vs) : ∀ (x : XE) (e' : Expr), isX T N sc i x e' = true → PE (X.suite a ((a, oe) :: pn)) e' (tXb B i a cls dd x)
  | .fld kk, e', h => x_fld c hz hf kk e' h
  | .str s, e', h => by
    unfold isX at h
    split at h
    · rw [decide_eq_true_eq] at h
      subst h
      exact PE.imp pe_str fun σ H Q ⟨sa, Hs, rs, cc, d, v', w, ex, sl, ev, q⟩ => by cases ev; exact q _ _ w.refl _ rfl
    · cases h
  | .int s, e', h => by
    unfold isX at h
    split at h
    · rw [decide_eq_true_eq] at h
      subst h
      exact PE.imp pe_int fun σ H Q ⟨sa, Hs, rs, cc, d, v', w, ex, sl, ev, q⟩ => by cases ev; exact q _ _ w.refl _ rfl
    · cases h
  | .bl s, e', h => by
    unfold isX at h
    split at h
    · rw [decide_eq_true_eq] at h
      subst h
      exact PE.imp pe_bl fun σ H Q ⟨sa, Hs, rs, cc, d, v', w, ex, sl, ev, q⟩ => by cases ev; exact q _ _ w.refl _ rfl
    · cases h
  | .pair x y, e', h => by
    unfold isX at h
    split at h
    · simp only [Bool.and_eq_true] at h
      obtain ⟨⟨⟨o1, o2⟩, h1⟩, h2⟩ := h
      refine PE.imp (pe_tup (pa_cons (x_ok c hz hf x _ h1) (pa_cons (x_ok c hz hf y _ h2) pa_nil (starEach_ok o2)) (starEach_ok o1))) fun σ H Q ⟨sa, Hs, rs, cc, d, v', w, ex, sl, ev, q⟩ => ?_
      unfold evalX at ev
      split at ev
      · rename_i x1 y1 e1 e2
        cases ev
        refine ⟨sa, Hs, rs, cc, d, x1, w, ex, sl, e1, fun Hs1 H1 E1 v1 r1 => ⟨sa, Hs1, rs, cc, d, y1, E1.wd, exr_mono E1.ss ex, sl, e2, fun Hs2 H2 E2 v2 r2 => ⟨by rw [sizeLine_eq]; show 2 ≤ _; omega, fun p hp => ?_⟩⟩⟩
        have E3 := E2.wd.alloc (o := .tup [v1, v2]) hp
        exact q _ _ ((E1.trans E2).trans E3) _ ⟨p, [v1, v2], rfl, upd_same, v1, [v2], rfl, Rp.mono (E2.ss.trans E3.ss) _ _ r1, v2, [], rfl, Rp.mono E3.ss _ _ r2, rfl⟩
      · cases ev
    · cases h
  | .eqs kk s, e', h => by
    unfold isX at h
    split at h
    · simp only [Bool.and_eq_true, decide_eq_true_eq] at h
      obtain ⟨h1, rfl⟩ := h
      rename_i t j py pos
      have un : (X.suite a ((a, oe) :: pn)).A.units + 64 < cLine := c.ok.units
      refine PE.imp (pe_cmpR (opCmp (B := B) un c.ok.hK .eq) (x_fld c hz hf kk _ h1) pe_str rfl) fun σ H Q ⟨sa, Hs, rs, cc, d, v', w, ex, sl, ev, q⟩ => ?_
      unfold evalX at ev
      split at ev
      · rename_i hk
        cases hz2 : evalCmp .eq d (.str t) with
        | none => rw [hz2] at ev; cases ev
        | some z =>
          rw [hz2] at ev
          cases ev
          refine ⟨sa, Hs, rs, cc, d, d, w, ex, sl, by unfold evalX; rw [if_pos hk], fun Hs1 H1 E1 v1 r1 => ?_⟩
          exact ⟨sa, Hs1, rs, d, .str t, z, E1.wd, .inl r1, .inl rfl, hz2, q _ _ E1 _ rfl⟩
      · cases ev
    · cases h
end
end Mp

set_option Elab.async false
set_option linter.all false
set_option maxRecDepth 100000
set_option maxHeartbeats 4000000
/-! Mp, part 18.6: the whole try. -/
namespace Mp
open PySem PySem.Spec L2
section
variable {T : Tab} {B : Bd} {G : Cfg} {k : Nat} {N : List Str} {sc : Scope} {X : Cx} {Wx : XK}
def tSu (B : Bd) (Wx : XK) (i : Option Nat) (su : Su) (a : Addr) (cls : Value) (dd : Option Addr) : TS := fun D σ H => ∃ sa Hs0 H0 rs0 Hs rs ρ c d, SR B sa Hs0 H0 rs0 Hs H rs ρ σ ∧ ExR B sa Hs c d cls dd ∧ (∀ j, i = some j → σ[j]? = some (some (.ref a))) ∧
  Post B sa Wx Hs0 H0 rs0 (execSu su c d ρ rs) (OutOk B sa Hs0 H0 rs0 D)
theorem su_ok (c : CxS T B G k N sc X) {i : Option Nat} {a : Addr} {oe : Obj} {cls : Value} {dd : Option Addr} {pn : List (Addr × Obj)} (hz : Zc cls dd oe) (hf : ∃ vs, oe.data = .fields vs) : ∀ (su : Su) (l : List Stmt), isSu T N sc i su l = true → PSs (X.suite a ((a, oe) :: pn)) l (tSu B Wx i su a cls dd)
  | .ret x, l, h => by
    dsimp only [isSu] at h
    split at h
    · refine pss_one (PS.imp (ps_ret (x_ok c hz hf x _ h)) fun D σ H ⟨sa, Hs0, H0, rs0, Hs, rs, ρ, cc, d, sr, ex, sl, p⟩ => ?_)
      have p : Post B sa Wx Hs0 H0 rs0 (M.bind (M.opt (evalX x cc d)) (fun v => M.ok (Out.ret v)) rs) (OutOk B sa Hs0 H0 rs0 D) := p
      cases ev : evalX x cc d with
      | none => rw [ev] at p; exact (show False from p).elim
      | some v' =>
        rw [ev] at p
        exact ⟨sa, Hs, rs, cc, d, v', sr.wd, ex, sl, ev, fun Hs' H' E v r => p Hs' H' (sr.ext.trans E) v r⟩
    · cases h
  | .app j x, l, h => by
    dsimp only [isSu] at h
    split at h
    · rename_i y py name ap e' cp pos
      simp only [Bool.and_eq_true, decide_eq_true_eq] at h
      obtain ⟨⟨⟨⟨⟨⟨h1, h2⟩, h3⟩, rfl⟩, hl⟩, ok⟩, h7⟩ := h
      obtain ⟨n1, n2, n3⟩ := nameOk1 h3
      have hv : PE (X.suite a ((a, oe) :: pn)) (.Name y py) (tVar j) := pe_var (by show X.N[j]? = _; rw [c.ok.hN]; exact h1) (by show Vis X.env.scope y; rw [c.ok.hsc]; exact vis_of h2) n1 n2
      refine pss_one (PS.imp (ps_expr (pe_bm PySem.F.plainAttrs_list PySem.F.slot_list_append PySem.F.type_list_append mt_append hv (pa_cons (x_ok c hz hf x _ h7) pa_nil (starEach_ok ok)) rfl (few1 ok cp) hl (starEach_ok ok) rfl) rfl) fun D σ H ⟨sa, Hs0, H0, rs0, Hs, rs, ρ, cc, d, sr, ex, sl, p⟩ => ?_)
      dsimp only [execSu] at p
      cases hr : ρ[j]? with
      | none => rw [hr] at p; exact (show False from p).elim
      | some o =>
        rw [hr] at p
        cases o with
        | none => exact (show False from p).elim
        | some s =>
          cases s with
          | d x => exact (show False from p).elim
          | od t ks vs => exact (show False from p).elim
          | ol xs =>
            obtain ⟨v, hv, b, rfl, h0, hs, vs, ha, rv⟩ := sr.slot j _ hr
            refine ⟨.ref b, hv, .inl ⟨rfl, vs, SqL.of ha⟩, ?_⟩
            have p : Post B sa Wx Hs0 H0 rs0 (M.bind (M.opt (evalX x cc d)) (fun v => if xs.length < lim then M.ok (Out.nx (ρ.set j (some (.ol (xs ++ [v]))))) else M.stuck) rs) (OutOk B sa Hs0 H0 rs0 D) := p
            cases ev : evalX x cc d with
            | none => rw [ev] at p; exact (show False from p).elim
            | some v' =>
              rw [ev] at p
              have p : Post B sa Wx Hs0 H0 rs0 ((if xs.length < lim then M.ok (Out.nx (ρ.set j (some (.ol (xs ++ [v']))))) else M.stuck) rs) (OutOk B sa Hs0 H0 rs0 D) := p
              refine ⟨sa, Hs, rs, cc, d, v', sr.wd, ex, sl, ev, fun Hs1 H1 e1 w r1 => ?_⟩
              have na : b ≠ sa := fun z => sr.sne (z ▸ h0)
              have ha1 := e1.keep b _ (.inl na) ha
              have hs1 := e1.new b _ hs ha (fun _ z => by cases z)
              have sr1 := sr.mono e1
              by_cases hlt : xs.length < lim
              · rw [if_pos hlt] at p
                refine ⟨b, vs, w, rfl, rfl, ha1, by rw [← rv.length, ← lim_eq]; exact hlt, ?_⟩
                have own' : OwnAt B sa Hs1 (upd H1 b (.lst (vs ++ [w]))) b (.ol (xs ++ [v'])) := ⟨hs1, vs ++ [w], upd_same, Rps.append (Rps.mono e1.ss _ _ rv) (Rps.one r1)⟩
                have sr2 := sr1.ownUpd hr rfl hv h0 hs1 rfl own'
                exact Post.ok' p sr2.ext _ sr2
              · rw [if_neg hlt] at p; exact (show False from p).elim
    · cases h
  | .inc j n, l, h => by
    dsimp only [isSu] at h
    split at h
    · rename_i y py z pz m jj p1 pb pos
      simp only [Bool.and_eq_true, decide_eq_true_eq] at h
      obtain ⟨⟨⟨⟨⟨h1, h2⟩, rfl⟩, h4⟩, h5⟩, rfl⟩ := h
      obtain ⟨n1, n2, n3⟩ := nameOk1 h5
      have hN : (X.suite a ((a, oe) :: pn)).N[j]? = some z := by show X.N[j]? = _; rw [c.ok.hN]; exact h1
      have hv : PE (X.suite a ((a, oe) :: pn)) (.Name z pz) (tVar j) := pe_var hN (by show Vis X.env.scope z; rw [c.ok.hsc]; exact vis_of h4) n1 n2
      refine pss_one (PS.imp (ps_set (i := j) (by show X.N.Nodup; rw [c.ok.hN]; exact c.ok.nd) hN (by show Loc X.env.scope z; rw [c.ok.hsc]; exact locB_of h2) (pe_op (opBin (X := X.suite a ((a, oe) :: pn)) (B := B) c.ok.hK .add) hv pe_int) rfl (.inl (c.fn z))) fun D σ H ⟨sa, Hs0, H0, rs0, Hs, rs, ρ, cc, d, sr, ex, sl, p⟩ => ?_)
      dsimp only [execSu] at p
      cases hr : ρ[j]? with
      | none => rw [hr] at p; exact (show False from p).elim
      | some o =>
        rw [hr] at p
        cases o with
        | none => exact (show False from p).elim
        | some s =>
          cases s <;> first | exact (show False from p).elim | skip
          rename_i x
          cases x <;> first | exact (show False from p).elim | skip
          rename_i i0
          obtain ⟨v, hv, rv⟩ := sr.slot j _ hr
          have rv' : Rp B.K B.cn sa Hs (.int i0) v := rv
          refine ⟨v, hv, sa, Hs, rs, .int i0, .int m, .int (i0 + m), sr.wd, .inl rv', .inl rfl, rfl, fun Hs1 H1 e1 w r1 => ?_⟩
          have r1' : Rp B.K B.cn sa Hs1 (.int (i0 + m)) w := r1
          exact Post.ok' p (sr.ext.trans e1) _ ((sr.mono e1).put j r1')
    · cases h
/-- a slot without a value -/
def noVal (ρ : Env) (i : Nat) : Prop := ∀ s, ρ[i]? ≠ some (some s)
theorem noVal_set {ρ : Env} {i j : Nat} {s : SV} (h : noVal ρ i) (hj : ∃ t, ρ[j]? = some (some t)) : noVal (ρ.set j (some s)) i := fun u e => by
  obtain ⟨t, ht⟩ := hj
  by_cases hij : j = i
  · subst hij; exact h t ht
  · rw [List.getElem?_set_ne hij] at e; exact h u e
theorem su_app {j : Nat} {x : XE} {c : Nat} {d : Mp.D} {ρ : Env} {o : Out} {rs rs' : Rg} (e : execSu (.app j x) c d ρ rs = .ok o rs') : ∃ xs ys, ρ[j]? = some (some (.ol xs)) ∧ o = .nx (ρ.set j (some (.ol ys))) := by
  dsimp only [execSu] at e
  cases hj : ρ[j]? with
  | none => rw [hj] at e; cases e
  | some q =>
    rw [hj] at e
    cases q with
    | none => cases e
    | some s =>
      cases s with
      | d x => cases e
      | od t ks vs => cases e
      | ol xs =>
        obtain ⟨v, r1, _, e⟩ := bind_inv e
        by_cases hl : xs.length < lim
        · rw [if_pos hl] at e; cases e; exact ⟨xs, _, rfl, rfl⟩
        · rw [if_neg hl] at e; cases e
theorem su_inc {j : Nat} {n : Int} {c : Nat} {d : Mp.D} {ρ : Env} {o : Out} {rs rs' : Rg} (e : execSu (.inc j n) c d ρ rs = .ok o rs') : ∃ s t, ρ[j]? = some (some s) ∧ o = .nx (ρ.set j (some t)) := by
  dsimp only [execSu] at e
  cases hj : ρ[j]? with
  | none => rw [hj] at e; cases e
  | some q =>
    rw [hj] at e
    cases q with
    | none => cases e
    | some s =>
      cases s with
      | ol xs => cases e
      | od t ks vs => cases e
      | d x =>
        cases x <;> first | (cases e; done) | skip
        cases e
        exact ⟨_, _, rfl, rfl⟩
theorem su_noVal {su : Su} {c i : Nat} {d : Mp.D} {ρ ρ' : Env} {rs rs' : Rg} (h : noVal ρ i) (e : execSu su c d ρ rs = .ok (.nx ρ') rs') : noVal ρ' i := by
  cases su with
  | ret x =>
    dsimp only [execSu] at e
    obtain ⟨v, r1, _, e⟩ := bind_inv e
    cases e
  | app j x =>
    obtain ⟨xs, ys, h1, h2⟩ := su_app e
    cases h2
    exact noVal_set h ⟨_, h1⟩
  | inc j n =>
    obtain ⟨xs, ys, h1, h2⟩ := su_inc e
    cases h2
    exact noVal_set h ⟨_, h1⟩
theorem su_end {su : Su} {c : Nat} {d : Mp.D} {ρ : Env} {o : Out} {rs rs' : Rg} (e : execSu su c d ρ rs = .ok o rs') : (∃ ρ', o = .nx ρ') ∨ ∃ v, o = .ret v := by
  cases su with
  | ret x =>
    dsimp only [execSu] at e
    obtain ⟨v, r1, _, e⟩ := bind_inv e
    cases e
    exact .inr ⟨v, rfl⟩
  | app j x =>
    obtain ⟨xs, ys, h1, h2⟩ := su_app e
    exact .inl ⟨_, h2⟩
  | inc j n =>
    obtain ⟨xs, ys, h1, h2⟩ := su_inc e
    exact .inl ⟨_, h2⟩
theorem SR.offS {sa : Addr} {Hs0 H0 Hs H : Hp} {rs0 rs : Rg} {ρ : Env} {σ : L2.St} (r : SR B sa Hs0 H0 rs0 Hs H rs ρ σ) (i : Nat) (o : Option V) : SR B sa Hs0 H0 rs0 Hs H rs (ρ.set i none) (σ.set i o) := by
  have back : ∀ (j : Nat) (s : SV), (ρ.set i none)[j]? = some (some s) → i ≠ j ∧ ρ[j]? = some (some s) := fun j s e => by
    by_cases hj : i = j
    · subst hj
      have hlt : i < ρ.length := by
        have := (List.getElem?_eq_some_iff.mp e).1
        simpa using this
      rw [List.getElem?_set_self hlt] at e
      cases e
    · rw [List.getElem?_set_ne hj] at e; exact ⟨hj, e⟩
  refine ⟨r.sne, r.ext, by simp [r.len], fun j s e => ?_, fun j l s t v e1 e2 o1 o2 v1 v2 => ?_⟩
  · obtain ⟨hj, e⟩ := back j s e
    obtain ⟨v, h1, h2⟩ := r.slot j s e
    exact ⟨v, by rw [List.getElem?_set_ne hj]; exact h1, h2⟩
  · obtain ⟨hj, e1⟩ := back j s e1
    obtain ⟨hl, e2⟩ := back l t e2
    rw [List.getElem?_set_ne hj] at v1
    rw [List.getElem?_set_ne hl] at v2
    exact r.apart j l s t v e1 e2 o1 o2 v1 v2
theorem SR.offV {sa : Addr} {Hs0 H0 Hs H : Hp} {rs0 rs : Rg} {ρ : Env} {σ : L2.St} (r : SR B sa Hs0 H0 rs0 Hs H rs ρ σ) {i : Nat} (h : noVal ρ i) : SR B sa Hs0 H0 rs0 Hs H rs ρ (σ.set i none) := by
  refine ⟨r.sne, r.ext, by simp [r.len], fun j s e => ?_, fun j l s t v e1 e2 o1 o2 v1 v2 => ?_⟩
  · have hj : i ≠ j := fun z => h s (z ▸ e)
    obtain ⟨v, h1, h2⟩ := r.slot j s e
    exact ⟨v, by rw [List.getElem?_set_ne hj]; exact h1, h2⟩
  · have hj : i ≠ j := fun z => h s (z ▸ e1)
    have hl : i ≠ l := fun z => h t (z ▸ e2)
    rw [List.getElem?_set_ne hj] at v1
    rw [List.getElem?_set_ne hl] at v2
    exact r.apart j l s t v e1 e2 o1 o2 v1 v2
/-- the clause of a handler -/
def clauseOf (B : Bd) (Wx : XK) (mg : Nat → Addr) (h : Hd) : Clause := (.ref (mg h.c), h.i, fun a cls dd => tSu B Wx h.i h.su a cls dd)
theorem noVal_off {ρ : Env} {i : Nat} : noVal (ρ.set i none) i := fun s e => by
  by_cases hlt : i < ρ.length
  · rw [List.getElem?_set_self hlt] at e; cases e
  · rw [List.getElem?_eq_none (by simpa using hlt)] at e; cases e
theorem handle_read {mg : Nat → Addr} (xsb : ∀ c x C C' fo fo', B.xc c = some (C, fo) → B.xc x = some (C', fo') → PySem.W.exmOne B.K (.ref C) (.ref C') = some (xsub c x)) {sa : Addr} {Hs0 H0 Hs H : Hp} {rs0 rs : Rg} {ρ : Env} {σ : L2.St} {DD : Ends} {c : Nat} {d : Mp.D} {cls : Value} {dd : Option Addr}
    (sr : SR B sa Hs0 H0 rs0 Hs H rs ρ σ) (ex : ExR B sa Hs c d cls dd) : ∀ (hs : List Hd), (∀ h ∈ hs, ∃ fo, B.xc h.c = some (mg h.c, fo)) → Post B sa Wx Hs0 H0 rs0 (handleH hs c d ρ rs) (OutOk B sa Hs0 H0 rs0 DD) → wMix B.K (cW Wx) DD (hs.map (clauseOf B Wx mg)) cls dd σ H
  | [], _, p => p Hs H cls dd sr.ext ex
  | h :: r, hm, p => by
    obtain ⟨fo', hx'⟩ := hm h List.mem_cons_self
    obtain ⟨C, fo, hx, rfl, _⟩ := id ex
    refine ⟨xsub c h.c, xsb _ _ _ _ _ _ hx hx', fun hb => ?_, fun hb a ha => ?_⟩
    · unfold handleH at p
      rw [hb] at p
      exact handle_read xsb sr ex r (fun x hx => hm x (List.mem_cons_of_mem _ hx)) p
    · unfold handleH at p
      rw [hb, if_pos rfl] at p
      obtain ⟨hc, hii, hsu⟩ := h
      cases hii with
      | none => exact ⟨sa, Hs0, H0, rs0, Hs, rs, ρ, c, d, sr, ex, fun j e => (by cases e), p⟩
      | some i =>
        intro hlt
        have p : Post B sa Wx Hs0 H0 rs0 (execSu hsu c d (ρ.set i none) rs) (OutOk B sa Hs0 H0 rs0 DD) := p
        refine ⟨sa, Hs0, H0, rs0, Hs, rs, ρ.set i none, c, d, sr.offS i _, ex, fun j e => (by cases e; exact List.getElem?_set_self hlt), ?_⟩
        cases er : execSu hsu c d (ρ.set i none) rs with
        | stuck => rw [er] at p; exact p
        | exc c' d' rs' => rw [er] at p; exact p
        | ok o rs' =>
          rw [er] at p
          intro Hs' H' e
          have q := p Hs' H' e
          rcases su_end er with ⟨ρ', rfl⟩ | ⟨v, rfl⟩
          · exact fun σ' sr' => q _ (sr'.offV (su_noVal noVal_off er))
          · exact q
theorem hds_ok (c : CxS T B G k N sc X) {mg : Nat → Addr} (hmg : ∀ cc, T.xs.contains cc = true → XcI X.prog B X.mg cc (mg cc)) : ∀ (hs : List Hd) (es : List ExceptHandler), isHds T N sc hs es = true → HdsM X es (hs.map (clauseOf B Wx mg)) ∧ (∀ h ∈ hs, ∃ fo, B.xc h.c = some (mg h.c, fo))
  | [], es, h => by
    unfold isHds at h
    cases es with
    | nil => exact ⟨.nil, fun _ z => (by cases z)⟩
    | cons _ _ => cases h
  | hd :: r, es, h => by
    unfold isHds at h
    cases es with
    | nil => cases h
    | cons e l =>
      have h : (isHd T N sc hd e && isHds T N sc r l) = true := h
      rw [Bool.and_eq_true] at h
      obtain ⟨g1, g2⟩ := hds_ok c hmg r l h.2
      have h1 := h.1
      unfold isHd at h1
      split at h1
      · rename_i x np n b₀ su ps hh
        simp only [Bool.and_eq_true, decide_eq_true_eq] at h1
        obtain ⟨⟨⟨⟨⟨a1, a2⟩, a3⟩, a4⟩, a5⟩, a6⟩ := h1
        have xi := hmg hd.c a2
        obtain ⟨n1, n2, n3⟩ := nameOk1 a4
        subst a1
        refine ⟨.cons (o := hd.i) ⟨c.ok.gl a3, n1, .inl xi.gC⟩ ?_ (fun a oe cls d pn hz hf => su_ok c hz hf hd.su _ a6) g1, fun z hz => ?_⟩
        · obtain ⟨hc, hii, hsu⟩ := hd
          cases hii with
          | none =>
            cases n with
            | none => exact True.intro
            | some y => cases a5
          | some i =>
            cases n with
            | none => cases a5
            | some y =>
              simp only [Bool.and_eq_true, decide_eq_true_eq] at a5
              exact ⟨by rw [c.ok.hN]; exact a5.1, by show X.env.scope.names.lookup y = _; rw [c.ok.hsc]; exact a5.2⟩
        · rcases List.mem_cons.mp hz with rfl | hz
          · exact ⟨_, xi.xc⟩
          · exact g2 z hz
      · cases h1
theorem s_try (c : CxS T B G k N sc X) (tk : Takes X (cW Wx)) {b : Ss} {hs : List Hd} {b' : List Stmt} {h : ExceptHandler} {hs' : List ExceptHandler} {pos : Pos} (hf : flatSs b = true) (hb : isSs T N sc b b' = true) (hh : isHds T N sc hs (h :: hs') = true) :
    PS X (.Try b' (h :: hs') [] [] pos) (tS B G Wx (.try_ b hs)) := by
  have ch : ∀ cc, ∃ C, T.xs.contains cc = true → XcI X.prog B X.mg cc C := fun cc => by
    by_cases z : T.xs.contains cc = true
    · obtain ⟨C, q⟩ := c.xcs cc z
      exact ⟨C, fun _ => q⟩
    · exact ⟨0, fun y => absurd y z⟩
  obtain ⟨mg, hmg⟩ := Classical.skolem.mp ch
  obtain ⟨g1, g2⟩ := hds_ok (Wx := Wx) c hmg hs _ hh
  refine PS.imp (ps_mix (tb := fun W => tFl B W (execSs G b)) c.stk c.frm (by rw [c.ok.hN]; exact c.ok.nd) tk (fun W pn xe tkw _ => soundFs b (X.tr pn xe) W b' ⟨c.ok.hK, c.ok.hN, c.ok.nd, c.ok.hsc, c.ok.calm, c.ok.room, c.ok.fns, c.ok.cls, c.ok.mts, c.ok.ini, c.ok.sts, c.ok.cons, c.ok.blt⟩ tkw hf hb) g1) fun D σ H ⟨sa, Hs0, H0, rs0, Hs, rs, ρ, sr, p⟩ => ?_
  refine ⟨sa, Hs0, H0, rs0, Hs, rs, ρ, sr, ?_⟩
  have p : Post B sa Wx Hs0 H0 rs0 (tryM (execSs G b ρ) hs ρ rs) (OutOk B sa Hs0 H0 rs0 D) := p
  unfold tryM at p
  cases er : execSs G b ρ rs with
  | stuck => rw [er] at p; exact p
  | ok o rs' =>
    rw [er] at p
    intro Hs' H' e
    have q := p Hs' H' (sr.ext.trans e)
    rcases flatSs_at b ρ rs o rs' hf er with rfl | ⟨d, rfl⟩
    · exact q σ (sr.mono e)
    · exact q
  | exc cc d rs' =>
    rw [er] at p
    intro Hs' H' cls dd e ex
    rw [c.ok.hK]
    have sr' := sr.mono e
    exact handle_read c.xsb sr' ex hs g2 p
end
end Mp

set_option Elab.async false
set_option linter.all false
set_option maxRecDepth 100000
set_option maxHeartbeats 4000000
/-! Mp, part 19: blocks are sound. -/
namespace Mp
open PySem PySem.Spec L2
section
variable {T : Tab} {B : Bd} {G : Cfg} {k : Nat} {N : List Str} {sc : Scope} {X : Cx} {Wx : XK}
theorem OutOk.imp {sa : Addr} {Hs0 H0 : Hp} {rs0 : Rg} {D D' : Ends} {o : Out} {Hs H : Hp} {rs : Rg} (h : OutOk B sa Hs0 H0 rs0 D o Hs H rs) (h1 : ∀ ρ, o = .nx ρ → (∀ σ, SR B sa Hs0 H0 rs0 Hs H rs ρ σ → D.nx σ H) → ∀ σ, SR B sa Hs0 H0 rs0 Hs H rs ρ σ → D'.nx σ H)
    (h2 : ∀ v, D.rt v H → D'.rt v H) (h3 : ∀ σ, D.bk σ H → D'.bk σ H) (h4 : ∀ σ, D.ct σ H → D'.ct σ H) : OutOk B sa Hs0 H0 rs0 D' o Hs H rs := by
  cases o with
  | nx ρ => exact h1 ρ rfl h
  | ret d => exact fun v r => h2 v (h v r)
  | bk ρ => exact fun σ r => h3 σ (h σ r)
  | ct ρ => exact fun σ r => h4 σ (h σ r)
theorem ss_nil : PSs X [] (tSs B G Wx .nil) := ⟨fun pins s σ H D I ⟨sa, Hs0, H0, rs0, Hs, rs, ρ, sr, p⟩ => pss_nil.run pins s σ H D I (by
  unfold execSs at p
  exact Post.ok' p sr.ext _ sr)⟩
theorem seq_read {s : S} {r : Ss} {D : Ends} {σ : L2.St} {H : Hp} (h : tSs B G Wx (.cons s r) D σ H) : tSeq (tS B G Wx s) (tSs B G Wx r) D σ H := by
  obtain ⟨sa, Hs0, H0, rs0, Hs, rs, ρ, sr, p⟩ := h
  have p : Post B sa Wx Hs0 H0 rs0 (M.bind (execS G s ρ) (fun o => (match o with
    | .nx ρ' => execSs G r ρ'
    | .ret d => M.ok (.ret d)
    | .bk ρ' => M.ok (.bk ρ')
    | .ct ρ' => M.ok (.ct ρ'))) rs) (OutOk B sa Hs0 H0 rs0 D) := p
  refine ⟨sa, Hs0, H0, rs0, Hs, rs, ρ, sr, Post.mono (Post.bindR p) fun o Hs' H' rs' e q => ?_⟩
  cases o with
  | nx ρ' => exact fun σ' sr' => ⟨sa, Hs0, H0, rs0, Hs', rs', ρ', sr', q⟩
  | ret d => exact Post.ok' (Wx := Wx) q e
  | bk ρ' => exact Post.ok' (Wx := Wx) q e
  | ct ρ' => exact Post.ok' (Wx := Wx) q e
theorem ss_cons {s : S} {r : Ss} {st : Stmt} {l : List Stmt} (h1 : PS X st (tS B G Wx s)) (h2 : PSs X l (tSs B G Wx r)) : PSs X (st :: l) (tSs B G Wx (.cons s r)) := PSs.imp (pss_cons h1 h2) fun D σ H h => seq_read h
theorem ss_frz {i : Nat} {r : Ss} {l : List Stmt} (h2 : PSs X l (tSs B G Wx r)) : PSs X l (tSs B G Wx (.cons (.frz i) r)) := PSs.imp h2 fun D σ H ⟨sa, Hs0, H0, rs0, Hs, rs, ρ, sr, p⟩ => by
  have p : Post B sa Wx Hs0 H0 rs0 (M.bind (match ρ[i]? with
      | some (some (.ol xs)) => M.ok (Out.nx (ρ.set i (some (.d (.lst xs)))))
      | some (some (.od t ks vs)) => M.ok (Out.nx (ρ.set i (some (.d (.dic t ks vs)))))
      | _ => M.stuck) (fun o => (match o with
    | .nx ρ' => execSs G r ρ'
    | .ret d => M.ok (.ret d)
    | .bk ρ' => M.ok (.bk ρ')
    | .ct ρ' => M.ok (.ct ρ'))) rs) (OutOk B sa Hs0 H0 rs0 D) := p
  cases hr : ρ[i]? with
  | none => rw [hr] at p; exact (show False from p).elim
  | some o =>
    rw [hr] at p
    cases o with
    | none => exact (show False from p).elim
    | some s =>
      cases s with
      | d x => exact (show False from p).elim
      | ol xs =>
        obtain ⟨Hs', sr'⟩ := sr.frz hr rfl
        exact ⟨sa, Hs0, H0, rs0, Hs', rs, _, sr', p⟩
      | od t ks vs =>
        obtain ⟨Hs', sr'⟩ := sr.frz hr rfl
        exact ⟨sa, Hs0, H0, rs0, Hs', rs, _, sr', p⟩
theorem s_if {c : E} {a b : Ss} {c' : Expr} {a' b' : List Stmt} {pos : Pos} (hc : PT X c' (tT B G (cW Wx) c)) (ha : PSs X a' (tSs B G Wx a)) (hb : PSs X b' (tSs B G Wx b)) : PS X (.If c' a' b' pos) (tS B G Wx (.if_ c a b)) :=
  PS.imp (ps_if hc ha hb) fun D σ H ⟨sa, Hs0, H0, rs0, Hs, rs, ρ, sr, p⟩ => by
    unfold execS at p
    refine toTS sr p fun d Hs1 H1 rs1 sr1 p => ?_
    cases d <;> first | exact (show False from p).elim | skip
    rename_i z
    refine ⟨z, rfl, ?_⟩
    cases z with
    | true => rw [if_pos rfl]; exact ⟨sa, Hs0, H0, rs0, Hs1, rs1, ρ, sr1, p⟩
    | false => rw [if_neg (by simp)]; exact ⟨sa, Hs0, H0, rs0, Hs1, rs1, ρ, sr1, p⟩
theorem s_while (c : CxS T B G k N sc X) {cc : E} {b : Ss} {c' : Expr} {b' : List Stmt} {pos : Pos} (hc : PT X c' (tT B G (cW Wx) cc)) (hb : PSs X b' (tSs B G Wx b)) : PS X (.While c' b' [] pos) (tS B G Wx (.while_ cc b)) :=
  PS.imp (ps_while c.own hc hb) fun D σ H ⟨sa, Hs0, H0, rs0, Hs, rs, ρ, sr, p⟩ => by
    unfold execS at p
    refine ⟨fun m σ' H' => ∃ Hs' rs' ρ', SR B sa Hs0 H0 rs0 Hs' H' rs' ρ' σ' ∧ Post B sa Wx Hs0 H0 rs0 (loopW (fun ρ => evalE G true cc ρ) (fun ρ => execSs G b ρ) m ρ' rs') (OutOk B sa Hs0 H0 rs0 D), ⟨G.fuel, Hs, rs, ρ, sr, p⟩, ?_⟩
    rintro m σ1 H1 ⟨Hs1, rs1, ρ1, sr1, p1⟩
    cases m with
    | zero => exact (show False from p1).elim
    | succ m =>
      unfold loopW at p1
      refine toTS sr1 p1 fun d Hs2 H2 rs2 sr2 p2 => ?_
      cases d <;> first | exact (show False from p2).elim | skip
      rename_i z
      refine ⟨z, rfl, ?_⟩
      cases z with
      | true =>
        rw [if_pos rfl]
        refine ⟨fun σ' H' => ∃ Hs' rs' ρ', SR B sa Hs0 H0 rs0 Hs' H' rs' ρ' σ' ∧ Post B sa Wx Hs0 H0 rs0 (loopW (fun ρ => evalE G true cc ρ) (fun ρ => execSs G b ρ) m ρ' rs') (OutOk B sa Hs0 H0 rs0 D), fun σ' H' q => ⟨m, Nat.lt_succ_self m, q⟩, ?_⟩
        have p2 : Post B sa Wx Hs0 H0 rs0 (M.bind (execSs G b ρ1) (fun o => (match o with
          | .nx ρ' => loopW (fun ρ => evalE G true cc ρ) (fun ρ => execSs G b ρ) m ρ'
          | .ct ρ' => loopW (fun ρ => evalE G true cc ρ) (fun ρ => execSs G b ρ) m ρ'
          | .bk ρ' => M.ok (.nx ρ')
          | .ret d => M.ok (.ret d))) rs2) (OutOk B sa Hs0 H0 rs0 D) := p2
        refine ⟨sa, Hs0, H0, rs0, Hs2, rs2, ρ1, sr2, Post.mono (Post.bindR p2) fun o Hs' H' rs' e q => ?_⟩
        cases o with
        | nx ρ' => exact fun σ' sr' => ⟨Hs', rs', ρ', sr', q⟩
        | ct ρ' => exact fun σ' sr' => ⟨Hs', rs', ρ', sr', q⟩
        | bk ρ' => exact Post.ok' (Wx := Wx) q e
        | ret d => exact Post.ok' (Wx := Wx) q e
      | false =>
        rw [if_neg (by simp)]
        exact Post.ok' p2 sr2.ext _ sr2
theorem Ext.reb {sa : Addr} {Hs0 H0 Hs1 H1 Hs' H' : Hp} {rs0 rs1 rs' : Rg} (e1 : Ext B sa Hs0 H0 rs0 Hs1 H1 rs1) (e : Ext B sa Hs0 H0 rs0 Hs' H' rs') (s : Same Hs1 Hs') : Ext B sa Hs1 H0 rs0 Hs' H' rs' :=
  ⟨e.wd, s, e.keep, fun b o h q n => e.new b o (by
    cases z : Hs0 b with
    | none => rfl
    | some u => rw [e1.ss b u z] at h; cases h) q n, e.som⟩
theorem Ext.unreb {sa : Addr} {Hs0 H0 Hs1 H1 Hs' H' : Hp} {rs0 rs1 rs' : Rg} (e1 : Ext B sa Hs0 H0 rs0 Hs1 H1 rs1) (e : Ext B sa Hs1 H0 rs0 Hs' H' rs') : Ext B sa Hs0 H0 rs0 Hs' H' rs' :=
  ⟨e.wd, e1.ss.trans e.ss, e.keep, fun b o h q n => e.new b o (e1.new b o h q n) q n, e.som⟩
theorem SR.reb {sa : Addr} {Hs0 H0 Hs1 H1 Hs H : Hp} {rs0 rs1 rs : Rg} {ρ : Env} {σ : L2.St} (e1 : Ext B sa Hs0 H0 rs0 Hs1 H1 rs1) (r : SR B sa Hs0 H0 rs0 Hs H rs ρ σ) (s : Same Hs1 Hs) : SR B sa Hs1 H0 rs0 Hs H rs ρ σ := ⟨r.sne, e1.reb r.ext s, r.len, r.slot, r.apart⟩
theorem SR.unreb {sa : Addr} {Hs0 H0 Hs1 H1 Hs H : Hp} {rs0 rs1 rs : Rg} {ρ : Env} {σ : L2.St} (e1 : Ext B sa Hs0 H0 rs0 Hs1 H1 rs1) (r : SR B sa Hs1 H0 rs0 Hs H rs ρ σ) : SR B sa Hs0 H0 rs0 Hs H rs ρ σ := ⟨r.sne, e1.unreb r.ext, r.len, r.slot, r.apart⟩
theorem Post.reb {α : Type} {sa : Addr} {W : XK} {Hs0 H0 Hs1 H1 : Hp} {rs0 rs1 : Rg} {r : Res α} {Q : α → Hp → Hp → Rg → Prop} (e1 : Ext B sa Hs0 H0 rs0 Hs1 H1 rs1) (h : Post B sa W Hs0 H0 rs0 r Q) : Post B sa W Hs1 H0 rs0 r Q := by
  cases r with
  | ok a rs' => exact fun Hs' H' e => h Hs' H' (e1.unreb e)
  | exc c d rs' => exact fun Hs' H' cls dd e x => h Hs' H' cls dd (e1.unreb e) x
  | stuck => exact h
theorem s_for (c : CxS T B G k N sc X) {xs : List Nat} {it : It} {b : Ss} {tg iter : Expr} {b' : List Stmt} {pos : Pos} (ok : okX iter = true) (hi : PI X tg iter (tIt B G (cW Wx) false it)) (hg : PG X tg (gTg X.K xs)) (hb : PSs X b' (tSs B G Wx b)) :
    PS X (.For tg iter b' [] pos) (tS B G Wx (.for_ xs it b)) :=
  PS.imp (ps_for c.own c.ok.calm hi hg hb (folded_ok ok)) fun D σ H ⟨sa, Hs0, H0, rs0, Hs, rs, ρ, sr, p⟩ => by
    unfold execS at p
    refine ⟨sa, Hs0, H0, rs0, Hs, rs, ρ, sr, Post.mono (Post.bindC p sr.ext) fun ds Hs1 H1 rs1 e1 p1 J hJ => ?_⟩
    have sr1 := sr.mono e1
    have e0 := sr1.ext
    have sr1' := sr1.reb e0 (Same.refl _)
    refine ⟨fun i m σ' H' => m = ds.length - i ∧ i ≤ ds.length ∧ ∃ Hs' rs' ρ', SR B sa Hs1 H0 rs0 Hs' H' rs' ρ' σ' ∧
      Post B sa Wx Hs0 H0 rs0 (loopF (fun d ρ => M.bind (M.opt (bindT xs d ρ)) fun ρ' => execSs G b ρ') (ds.drop i) ρ' rs') (OutOk B sa Hs0 H0 rs0 D), ⟨ds.length, by simp, Nat.zero_le _, Hs1, rs1, ρ, sr1', p1⟩, ?_⟩
    rintro i m σ2 H2 ⟨rfl, hi2, Hs2, rs2, ρ2, sr2, p2⟩
    have kp : Keeps B sa false Hs1 H1 rs1 Hs2 H2 rs2 := by unfold Keeps; rw [if_neg (by simp)]; exact sr2.ext.ss
    by_cases hlt : i < ds.length
    · have ed : ds.drop i = ds[i] :: ds.drop (i + 1) := List.drop_eq_getElem_cons hlt
      rw [ed] at p2
      refine .inr ⟨hJ.go _ _ _ _ kp sr2.wd hlt, fun σ' H' => ∃ Hs' rs' ρ', SR B sa Hs1 H0 rs0 Hs' H' rs' ρ' σ' ∧
        Post B sa Wx Hs0 H0 rs0 (loopF (fun d ρ => M.bind (M.opt (bindT xs d ρ)) fun ρ' => execSs G b ρ') (ds.drop (i + 1)) ρ' rs') (OutOk B sa Hs0 H0 rs0 D), fun σ' H' q => ⟨ds.length - (i + 1), by omega, rfl, hlt, q⟩, fun x H3 y3 => ?_⟩
      obtain ⟨rfl, d, Hs3, hd, x3, rd⟩ := hJ.yld _ _ _ _ _ _ kp sr2.wd hlt y3
      have sr3 := sr2.mono x3
      have edd : ds[i] = d := by
        rw [List.getElem?_eq_getElem hlt] at hd
        exact Option.some.inj hd
      rw [edd] at p2
      unfold loopF at p2
      have p3 := p2
      cases hbt : bindT xs d ρ2 with
      | none =>
        exfalso
        unfold M.bind at p3
        rw [hbt] at p3
        exact p3
      | some ρ' =>
        rw [hbt] at p3
        have p3 : Post B sa Wx Hs0 H0 rs0 (M.bind (execSs G b ρ') (fun o => (match o with
          | .nx ρ' => loopF (fun d ρ => M.bind (M.opt (bindT xs d ρ)) fun ρ' => execSs G b ρ') (ds.drop (i + 1)) ρ'
          | .ct ρ' => loopF (fun d ρ => M.bind (M.opt (bindT xs d ρ)) fun ρ' => execSs G b ρ') (ds.drop (i + 1)) ρ'
          | .bk ρ' => M.ok (.nx ρ')
          | .ret d => M.ok (.ret d))) rs2) (OutOk B sa Hs0 H0 rs0 D) := p3
        rw [c.ok.hK]
        refine bind_ok sr3 hbt rd fun σ' _ _ sr' => ?_
        refine ⟨sa, Hs1, H0, rs0, Hs3, rs2, ρ', sr', Post.mono (Post.reb e0 (Post.bindR p3)) fun o Hs' H' rs' e q => ?_⟩
        cases o with
        | nx ρ' => exact fun σ' sr' => ⟨Hs', rs', ρ', sr', q⟩
        | ct ρ' => exact fun σ' sr' => ⟨Hs', rs', ρ', sr', q⟩
        | bk ρ' => exact fun σ' sr' => Post.ok' (Wx := Wx) q (e0.unreb e) σ' (sr'.unreb e0)
        | ret d => exact Post.ok' (Wx := Wx) q (e0.unreb e)
    · have : i = ds.length := by omega
      subst this
      rw [List.drop_length] at p2
      exact .inl ⟨hJ.stop _ _ _ kp sr2.wd, Post.ok' (Wx := Wx) p2 (e0.unreb sr2.ext) _ (sr2.unreb e0)⟩
end
mutual
theorem soundS {T : Tab} {B : Bd} {G : Cfg} {k : Nat} {N : List Str} : ∀ (s : S) (sc : Scope) (X : Cx) (Wx : XK) (st : Stmt), CxS T B G k N sc X → Takes X (cW Wx) → isS T N sc s st = true → PS X st (tS B G Wx s)
  | .set i e, sc, X, Wx, st, c, tk, h => by
    unfold isS at h
    split at h
    · simp only [Bool.and_eq_true, decide_eq_true_eq] at h
      exact s_set c tk h.1.1.1 h.1.1.2 h.1.2 h.2
    · cases h
  | .own i e, sc, X, Wx, st, c, tk, h => by
    unfold isS at h
    split at h
    · simp only [Bool.and_eq_true, decide_eq_true_eq] at h
      exact s_own c tk h.1.1.1.1 h.1.1.1.2 h.1.1.2 h.1.2 h.2
    · cases h
  | .un is e, sc, X, Wx, st, c, tk, h => by
    unfold isS at h
    split at h
    · simp only [Bool.and_eq_true] at h
      exact s_un c tk h.1.1.1 h.1.1.2 h.1.2 h.2
    · cases h
  | .aug i op e, sc, X, Wx, st, c, tk, h => by
    unfold isS at h
    split at h
    · simp only [Bool.and_eq_true, decide_eq_true_eq] at h
      obtain ⟨⟨⟨h1, h2⟩, rfl⟩, h4⟩ := h
      exact s_aug c tk h1 h2 h4
    · cases h
  | .put i kx e, sc, X, Wx, st, c, tk, h => by
    unfold isS at h
    split at h
    · simp only [Bool.and_eq_true, decide_eq_true_eq] at h
      obtain ⟨⟨⟨⟨⟨h1, h2⟩, h3⟩, h4⟩, h5⟩, h6⟩ := h
      exact s_put c tk h1 h2 h3 h4 h5 h6
    · cases h
  | .app i e, sc, X, Wx, st, c, tk, h => by
    unfold isS at h
    split at h
    · simp only [Bool.and_eq_true, decide_eq_true_eq] at h
      obtain ⟨⟨⟨⟨⟨⟨h1, h2⟩, h3⟩, rfl⟩, h5⟩, h6⟩, h7⟩ := h
      exact s_app c tk h1 h2 h3 h5 h6 h7
    · cases h
  | .drop e, sc, X, Wx, st, c, tk, h => by
    unfold isS at h
    split at h
    · simp only [Bool.and_eq_true] at h
      exact s_drop c tk h.1 h.2
    · cases h
  | .ret e, sc, X, Wx, st, c, tk, h => by
    unfold isS at h
    split at h
    · exact s_ret c tk h
    · cases h
  | .ret0, sc, X, Wx, st, c, tk, h => by
    unfold isS at h
    split at h
    · exact PS.imp ps_retN fun D σ H ⟨sa, Hs0, H0, rs0, Hs, rs, ρ, sr, p⟩ => Post.ok' (Wx := Wx) p sr.ext _ rfl
    · cases h
  | .if_ cc a b, sc, X, Wx, st, c, tk, h => by
    unfold isS at h
    split at h
    · simp only [Bool.and_eq_true] at h
      exact s_if ((soundE cc sc X (cW Wx) _ c.ok tk h.1.1.2).pt h.1.1.1) (soundSs a sc X Wx _ c tk h.1.2) (soundSs b sc X Wx _ c tk h.2)
    · cases h
  | .while_ cc b, sc, X, Wx, st, c, tk, h => by
    unfold isS at h
    split at h
    · simp only [Bool.and_eq_true] at h
      exact s_while c ((soundE cc sc X (cW Wx) _ c.ok tk h.1.2).pt h.1.1) (soundSs b sc X Wx _ c tk h.2)
    · cases h
  | .for_ xs it b, sc, X, Wx, st, c, tk, h => by
    unfold isS at h
    split at h
    · simp only [Bool.and_eq_true] at h
      obtain ⟨⟨⟨h1, h2⟩, h3⟩, h4⟩ := h
      exact s_for c h1 (soundIt it sc X (cW Wx) _ _ false c.ok tk h3) (tg_ok (N := N) (scope := sc) (rel := sc) ⟨by rw [c.ok.hN]; exact c.ok.nd, c.ok.hN, c.ok.hsc, fun x _ => c.fn x, c.ok.calm⟩ h2) (soundSs b sc X Wx _ c tk h4)
    · cases h
  | .brk, sc, X, Wx, st, c, tk, h => by
    unfold isS at h
    split at h
    · exact PS.imp ps_break fun D σ H ⟨sa, Hs0, H0, rs0, Hs, rs, ρ, sr, p⟩ => Post.ok' (Wx := Wx) p sr.ext _ sr
    · cases h
  | .cont, sc, X, Wx, st, c, tk, h => by
    unfold isS at h
    split at h
    · exact PS.imp ps_continue fun D σ H ⟨sa, Hs0, H0, rs0, Hs, rs, ρ, sr, p⟩ => Post.ok' (Wx := Wx) p sr.ext _ sr
    · cases h
  | .pass, sc, X, Wx, st, c, tk, h => by
    unfold isS at h
    split at h
    · exact PS.imp ps_pass fun D σ H ⟨sa, Hs0, H0, rs0, Hs, rs, ρ, sr, p⟩ => Post.ok' (Wx := Wx) p sr.ext _ sr
    · exact PS.imp ps_doc fun D σ H ⟨sa, Hs0, H0, rs0, Hs, rs, ρ, sr, p⟩ => Post.ok' (Wx := Wx) p sr.ext _ sr
    · cases h
  | .never, sc, X, Wx, st, c, tk, h => PS.imp ps_never fun D σ H ⟨sa, Hs0, H0, rs0, Hs, rs, ρ, sr, p⟩ => p.elim
  | .swap .., _, _, _, _, _, _, h => by unfold isS at h; cases h
  | .augIx .., _, _, _, _, _, _, h => by unfold isS at h; cases h
  | .ext .., _, _, _, _, _, _, h => by unfold isS at h; cases h
  | .pop .., _, _, _, _, _, _, h => by unfold isS at h; cases h
  | .appPop .., _, _, _, _, _, _, h => by unfold isS at h; cases h
  | .setPop .., _, _, _, _, _, _, h => by unfold isS at h; cases h
  | .rem i e, sc, X, Wx, st, c, tk, h => by
    unfold isS at h
    split at h
    · simp only [Bool.and_eq_true, decide_eq_true_eq] at h
      obtain ⟨⟨⟨⟨⟨⟨h1, h2⟩, h3⟩, rfl⟩, h5⟩, h6⟩, h7⟩ := h
      exact s_rem c tk h1 h2 h3 h5 h6 h7
    · cases h
  | .mov i j, sc, X, Wx, st, c, tk, h => by
    unfold isS at h
    split at h
    · simp only [Bool.and_eq_true, decide_eq_true_eq] at h
      obtain ⟨⟨⟨⟨h1, h2⟩, h3⟩, h4⟩, h5⟩ := h
      exact s_mov c h1 h2 h3 h4 h5
    · cases h
  | .frz .., _, _, _, _, _, _, h => by unfold isS at h; cases h
  | .raise cc e, sc, X, Wx, st, c, tk, h => by
    unfold isS at h
    split at h
    · simp only [Bool.and_eq_true, decide_eq_true_eq] at h
      obtain ⟨⟨⟨⟨⟨⟨h1, h2⟩, h3⟩, h4⟩, h5⟩, h6⟩, h7⟩ := h
      exact s_raise c tk h1 h2 h3 h4 h5 h6 h7
    · cases h
  | .try_ b hs, sc, X, Wx, st, c, tk, h => by
    unfold isS at h
    split at h
    · simp only [Bool.and_eq_true] at h
      exact s_try c tk h.1.1 h.1.2 h.2
    · cases h
theorem soundSs {T : Tab} {B : Bd} {G : Cfg} {k : Nat} {N : List Str} : ∀ (s : Ss) (sc : Scope) (X : Cx) (Wx : XK) (l : List Stmt), CxS T B G k N sc X → Takes X (cW Wx) → isSs T N sc s l = true → PSs X l (tSs B G Wx s)
  | .nil, sc, X, Wx, l, c, tk, h => by
    unfold isSs at h
    split at h
    · exact ss_nil
    · cases h
  | .cons s r, sc, X, Wx, l, c, tk, h => by
    by_cases hf : ∃ i, s = .frz i
    · obtain ⟨i, rfl⟩ := hf
      unfold isSs at h
      exact ss_frz (soundSs r sc X Wx l c tk h)
    · cases l with
      | nil => exfalso; cases s <;> first | exact hf ⟨_, rfl⟩ | (unfold isSs at h; cases h; done)
      | cons s' r' =>
        have h : (isS T N sc s s' && isSs T N sc r r') = true := by
          cases s <;> first | exact (hf ⟨_, rfl⟩).elim | (unfold isSs at h; exact h)
        rw [Bool.and_eq_true] at h
        exact ss_cons (soundS s sc X Wx _ c tk h.1) (soundSs r sc X Wx _ c tk h.2)
end
end Mp

set_option Elab.async false
set_option linter.all false
set_option maxRecDepth 100000
set_option maxHeartbeats 4000000
/-! Mp, part 19b: __init__: what stands ahead of the fields, then the fields in order. -/
namespace Mp
open PySem PySem.Spec L2
section
variable (T : Tab) (N : List Str)
/-- self.f = e, one for each field -/
def isTail (sc : Scope) : Es → List Str → List Stmt → Bool
  | .nil, [], [] => true
  | .cons e r, f :: fs, s :: l => (match s with
    | .Assign [.Attribute (.Name x _) g _] e' _ => decide (N[0]? = some x) && visB sc x && nameOk x && decide (f = g) && plainV e' && isE T N sc e e'
    | _ => false) && isTail sc r fs l
  | _, _, _ => false
def ssLen : Ss → Nat
  | .nil => 0
  | .cons (.frz _) r => ssLen r
  | .cons _ r => ssLen r + 1
def isInit (sc : Scope) (pre : Ss) (es : Es) (fs : List Str) (l : List Stmt) : Bool := isSs T N sc pre (l.take (ssLen pre)) && isTail T N sc es fs (l.drop (ssLen pre))
end
section
variable {B : Bd} {sa x : Addr} {Hs H Hs' H' : Hp} {rs rs' : Rg} {o o' : HO}
theorem upd_upd {H : Hp} {x : Addr} {o o' : HO} : upd (upd H x o) x o' = upd H x o' := by
  funext b
  by_cases h : b = x
  · rw [h, upd_same, upd_same]
  · rw [upd_ne h, upd_ne h, upd_ne h]
theorem upd_id {H : Hp} {x : Addr} {o : HO} (h : H x = some o) : upd H x o = H := by
  funext b
  by_cases hb : b = x
  · rw [hb, upd_same, h]
  · rw [upd_ne hb]
/-- an object that nothing shared is: it may be another one -/
theorem Ext.swapX (e : Ext B sa Hs H rs Hs' H' rs') (hx : x ≠ sa ∨ rs = none) (hs : Hs x = none) (hH : H x = some o) (nt : ∀ xs, o ≠ .tup xs) : Ext B sa Hs (upd H x o') rs Hs' (upd H' x o') rs' := by
  have hs' := e.new x o hs hH nt
  have at_ : ∀ (G : Hp), G sa ≠ none → upd G x o' sa ≠ none := fun G h => by
    by_cases hb : sa = x
    · rw [hb, upd_same]; simp
    · rw [upd_ne hb]; exact h
  refine ⟨⟨fun b u q => ?_, at_ _ e.wd.sne, fun xs q => ?_⟩, e.ss, fun b u c q => ?_, fun b u h q n => ?_, e.som⟩
  · rw [upd_ne (ne_of_none q hs')]; exact e.wd.sub b u q
  · obtain ⟨h1, vs, h2, h3⟩ := e.wd.reg xs q
    have hx' : x ≠ sa := hx.resolve_right fun z => by rw [e.som.mp z] at q; cases q
    exact ⟨h1, vs, by rw [upd_ne (Ne.symm hx')]; exact h2, h3⟩
  · by_cases hb : b = x
    · subst hb; rw [upd_same] at q ⊢; exact q
    · rw [upd_ne hb] at q ⊢; exact e.keep b u c q
  · by_cases hb : b = x
    · subst hb; exact hs'
    · rw [upd_ne hb] at q; exact e.new b u h q n
theorem SR.swapX {Hs0 H0 : Hp} {rs0 : Rg} {ρ : Env} {σ : L2.St} (r : SR B sa Hs0 H0 rs0 Hs H rs ρ σ) (hx : x ≠ sa ∨ rs0 = none) (hs : Hs0 x = none) (hH : H0 x = some o) (nt : ∀ xs, o ≠ .tup xs) : SR B sa Hs0 (upd H0 x o') rs0 Hs (upd H x o') rs ρ σ := by
  refine ⟨?_, r.ext.swapX hx hs hH nt, r.len, fun i s q => ?_, r.apart⟩
  · by_cases hb : sa = x
    · rw [hb, upd_same]; simp
    · rw [upd_ne hb]; exact r.sne
  obtain ⟨v, h1, h2⟩ := r.slot i s q
  refine ⟨v, h1, ?_⟩
  have far : ∀ b, H0 b = none → b ≠ x := fun b hb z => by rw [z, hH] at hb; cases hb
  cases s with
  | d d => exact h2
  | ol xs =>
    obtain ⟨a, q1, q2, q3, vs, q4, q5⟩ := h2
    exact ⟨a, q1, by rw [upd_ne (far a q2)]; exact q2, q3, vs, by rw [upd_ne (far a q2)]; exact q4, q5⟩
  | od t ks ds =>
    cases t with
    | false =>
      obtain ⟨a, q1, q2, q3, kk, vs, q4, q5⟩ := h2
      exact ⟨a, q1, by rw [upd_ne (far a q2)]; exact q2, q3, kk, vs, by rw [upd_ne (far a q2)]; exact q4, q5⟩
    | true =>
      obtain ⟨a, q1, q2, q3, kk, vs, q4, q5⟩ := h2
      exact ⟨a, q1, by rw [upd_ne (far a q2)]; exact q2, q3, kk, vs, by rw [upd_ne (far a q2)]; exact q4, q5⟩
mutual
theorem Rp.noSt {K : PySem.W.Frag} {cn : Nat → Option (Addr × List Str)} {sa sb : Addr} {H : Hp} : ∀ (d : D) (v : V), d.noSt = true → Rp K cn sa H d v → Rp K cn sb H d v
  | .non, _, _, h => h
  | .bl _, _, _, h => h
  | .int _, _, _, h => h
  | .str _, _, _, h => h
  | .tup ds, _, n, ⟨a, vs, h1, h2, h3⟩ => ⟨a, vs, h1, h2, Rps.noSt ds vs n h3⟩
  | .lst ds, _, n, ⟨a, vs, h1, h2, h3⟩ => ⟨a, vs, h1, h2, Rps.noSt ds vs n h3⟩
  | .scr ds, _, n, ⟨a, vs, h1, h2, h3⟩ => ⟨a, vs, h1, h2, Rps.noSt ds vs n h3⟩
  | .ktp ds, _, n, ⟨a, vs, h1, h2, h3⟩ => ⟨a, vs, h1, h2, Rps.noSt ds vs n h3⟩
  | .dic false ks ds, _, n, ⟨a, kk, vs, h1, h2, h3, h4, h5⟩ => ⟨a, kk, vs, h1, h2, h3, h4, Rps.noSt ds vs n h5⟩
  | .dic true ks ds, _, n, ⟨a, kk, vs, h1, h2, h3, h4, h5⟩ => ⟨a, kk, vs, h1, h2, h3, h4, Rps.noSt ds vs n h5⟩
  | .obj c fs, _, n, ⟨a, C, dx, ns, vs, h1, h2, h3, h4, h5⟩ => ⟨a, C, dx, ns, vs, h1, h2, h3, h4, Rps.noSt fs vs n h5⟩
  | .st, _, n, _ => by cases n
theorem Rps.noSt {K : PySem.W.Frag} {cn : Nat → Option (Addr × List Str)} {sa sb : Addr} {H : Hp} : ∀ (ds : List D) (vs : List V), D.noSts ds = true → Rps K cn sa H ds vs → Rps K cn sb H ds vs
  | [], _, _, h => h
  | d :: ds, _, n, ⟨v, r, h1, h2, h3⟩ => by
    have n' : (D.noSt d && D.noSts ds) = true := n
    rw [Bool.and_eq_true] at n'
    exact ⟨v, r, h1, Rp.noSt d v n'.1 h2, Rps.noSt ds r n'.2 h3⟩
end
theorem putF_new {f : Str} {y : V} : ∀ {fs : List (Str × V)}, f ∉ fs.map (·.1) → putF f y fs = fs ++ [(f, y)]
  | [], _ => rfl
  | (g, z) :: fs, h => by
    simp only [List.map_cons, List.mem_cons, not_or] at h
    show (if g = f then (g, y) :: fs else (g, z) :: putF f y fs) = _
    rw [if_neg (fun e => h.1 e.symm), putF_new h.2]; rfl
end
section
variable {T : Tab} {B : Bd} {G : Cfg} {k : Nat} {N : List Str} {sc : Scope} {X : Cx} {Wx : XK}
theorem noxB {α β : Type} {m : M α} {f : α → M β} : M.nox (M.bind m f) = M.bind (M.nox m) (fun a => M.nox (f a)) := by
  funext rs
  cases e : m rs <;> simp [M.nox, M.bind, e]
/-- statements, then more -/
theorem soundPre : ∀ (s : Ss) (l l2 : List Stmt) (t2 : TS), CxS T B G k N sc X → Takes X (cW Wx) → isSs T N sc s l = true → PSs X l2 t2 → PSs X (l ++ l2) (fun D σ H => tSs B G Wx s { D with nx := fun σ' H' => t2 D σ' H' } σ H)
  | .nil, l, l2, t2, c, tk, h, h2 => by
    unfold isSs at h
    split at h
    · refine PSs.imp h2 fun D σ H ⟨sa, Hs0, H0, rs0, Hs, rs, ρ, sr, p⟩ => ?_
      unfold execSs at p
      exact Post.ok' p sr.ext _ sr
    · cases h
  | .cons s r, l, l2, t2, c, tk, h, h2 => by
    by_cases hf : ∃ i, s = .frz i
    · obtain ⟨i, rfl⟩ := hf
      unfold isSs at h
      have ih := soundPre r l l2 t2 c tk h h2
      refine PSs.imp ih fun D σ H ⟨sa, Hs0, H0, rs0, Hs, rs, ρ, sr, p⟩ => ?_
      have p : Post B sa Wx Hs0 H0 rs0 (M.bind (match ρ[i]? with
          | some (some (.ol xs)) => M.ok (Out.nx (ρ.set i (some (.d (.lst xs)))))
          | some (some (.od t ks vs)) => M.ok (Out.nx (ρ.set i (some (.d (.dic t ks vs)))))
          | _ => M.stuck) (fun o => (match o with
        | .nx ρ' => execSs G r ρ'
        | .ret d => M.ok (.ret d)
        | .bk ρ' => M.ok (.bk ρ')
        | .ct ρ' => M.ok (.ct ρ'))) rs) (OutOk B sa Hs0 H0 rs0 { D with nx := fun σ' H' => t2 D σ' H' }) := p
      cases hr : ρ[i]? with
      | none => rw [hr] at p; exact (show False from p).elim
      | some o =>
        rw [hr] at p
        cases o with
        | none => exact (show False from p).elim
        | some s =>
          cases s with
          | d x => exact (show False from p).elim
          | ol xs =>
            obtain ⟨Hs', sr'⟩ := sr.frz hr rfl
            exact ⟨sa, Hs0, H0, rs0, Hs', rs, _, sr', p⟩
          | od t ks vs =>
            obtain ⟨Hs', sr'⟩ := sr.frz hr rfl
            exact ⟨sa, Hs0, H0, rs0, Hs', rs, _, sr', p⟩
    · cases l with
      | nil => exfalso; cases s <;> first | exact hf ⟨_, rfl⟩ | (unfold isSs at h; cases h; done)
      | cons s' r' =>
        have h : (isS T N sc s s' && isSs T N sc r r') = true := by
          cases s <;> first | exact (hf ⟨_, rfl⟩).elim | (unfold isSs at h; exact h)
        rw [Bool.and_eq_true] at h
        have ih := soundPre r r' l2 t2 c tk h.2 h2
        exact PSs.imp (pss_cons (soundS s sc X Wx _ c tk h.1) ih) fun D σ H q => seq_read q
/-- the fields that are left, the instance at x: done, with the values vs0 -/
def tTail (B : Bd) (G : Cfg) (K : PySem.W.Frag) (C : Addr) (ns : List Str) (es : Es) (flds : List Str) : TS := fun D σ Hr => ∃ (sa : Addr) (Hs0 H0 : Hp) (rs0 : Rg) (Hs H : Hp) (rs : Rg) (ρ : Env) (x dx : Addr) (done : List Str) (vs0 : List V) (ds0 : List Mp.D),
  SR B sa Hs0 H0 rs0 Hs H rs ρ σ ∧ H0 x = some (.ins C dx []) ∧ Hs0 x = none ∧ rs0 = none ∧ σ[0]? = some (some (.ref x)) ∧ Hr = upd H x (.ins C dx (done.zip vs0)) ∧ done.length = vs0.length ∧ Rps B.K B.cn sa Hs ds0 vs0 ∧ done ++ flds = ns ∧
  Post B sa (fun _ _ _ => False) Hs H rs (M.nox (evalEs G false es ρ) rs) (fun ds Hs' H' rs' => ∀ vs, Rps B.K B.cn sa Hs' ds vs → D.nx σ (upd H' x (.ins C dx (ns.zip (vs0 ++ vs)))))
theorem sound_tail (c : CxS T B G k N sc X) (tk : Takes X (cW Wx)) {C : Addr} {ns : List Str} (cl : Cls X.K C) (na : ∀ f ∈ ns, NoAttr X.K C f) (nd : ns.Nodup) (sm : ns.length < 1000) : ∀ (es : Es) (flds : List Str) (l : List Stmt), isTail T N sc es flds l = true → PSs X l (tTail B G X.K C ns es flds)
  | .nil, [], [], _ => PSs.imp pss_nil fun D σ Hr ⟨sa, Hs0, H0, rs0, Hs, H, rs, ρ, x, dx, done, vs0, ds0, sr, h1, h2, h3, h4, h5, h6, h7, h8, p⟩ => by
    have q := p Hs H sr.wd.refl [] rfl
    rw [List.append_nil] at h8 q
    subst h8 h5; exact q
  | .cons e r, f :: fs, s :: l, h => by
    unfold isTail at h
    rw [Bool.and_eq_true] at h
    obtain ⟨ha, hr⟩ := h
    split at ha
    case h_2 => cases ha
    case h_1 =>
    rename_i y py g pg e' pos
    simp only [Bool.and_eq_true, decide_eq_true_eq] at ha
    obtain ⟨⟨⟨⟨⟨a1, a2⟩, a3⟩, rfl⟩, a5⟩, a6⟩ := ha
    have snd := soundE e sc X (cW Wx) e' c.ok tk a6
    obtain ⟨n1, n2, n3⟩ := nameOk1 a3
    have hv : PE X (.Name y py) (tVar 0) := pe_var (by rw [c.ok.hN]; exact a1) (by rw [c.ok.hsc]; exact vis_of a2) n1 n2
    refine PSs.imp (pss_cons (ps_fld hv (snd.pe false) (swaps_plain a5 _ _ _)) (sound_tail c tk cl na nd sm r fs l hr)) fun D σ Hr ⟨sa, Hs0, H0, rs0, Hs, H, rs, ρ, x, dx, done, vs0, ds0, sr, h1, h2, h3, h4, h5, h6, h7, h8, p⟩ => ?_
    subst h5
    have nt : ∀ xs, HO.ins C dx [] ≠ .tup xs := fun xs z => by cases z
    have nt2 : ∀ xs, HO.ins C dx (done.zip vs0) ≠ .tup xs := fun xs z => by cases z
    have hHx : H x = some (.ins C dx []) := sr.ext.keep x _ (.inr h3) h1
    have hrs : rs = none := sr.ext.som.mp h3
    have hsx : Hs x = none := sr.ext.new x _ h2 h1 nt
    have sr1 := sr.swapX (o' := .ins C dx (done.zip vs0)) (.inr h3) h2 h1 nt
    have ep : M.nox (evalEs G false (.cons e r) ρ) = M.bind (M.nox (evalE G false e ρ)) (fun x => M.bind (M.nox (evalEs G false r ρ)) fun xs => M.ok (x :: xs)) := by
      show M.nox (M.bind (evalE G false e ρ) (fun x => M.bind (evalEs G false r ρ) fun xs => M.ok (x :: xs))) = _
      rw [noxB]
      congr 1; funext x
      rw [noxB]; rfl
    rw [ep] at p
    refine ⟨sa, Hs0, _, rs0, Hs, rs, ρ, sr1, ?_⟩
    cases er : evalE G false e ρ rs with
    | stuck => unfold M.bind M.nox at p; rw [er] at p; exact p.elim
    | exc c d rs1 => unfold M.bind M.nox at p; rw [er] at p; exact p.elim
    | ok d rs1 =>
      have p1 := post_nox (W' := fun _ _ _ => False) p
      rw [er] at p1
      intro Hs1 Hr1 e1 v rv
      have rv : Rp B.K B.cn sa Hs1 d v := by
        unfold RpB at rv
        rw [if_neg (by simp)] at rv; exact rv
      have e1g := e1.swapX (o' := .ins C dx []) (.inr hrs) hsx (by rw [upd_same]) nt2
      rw [upd_upd, upd_id hHx] at e1g
      have p2 := p1 Hs1 _ e1g
      have hr1 : Hr1 x = some (.ins C dx (done.zip vs0)) := e1.keep x _ (.inr hrs) (by rw [upd_same])
      have fnew : f ∉ (done.zip vs0).map (·.1) := by
        rw [List.map_fst_zip (by omega)]
        intro hm
        rw [← h8, List.nodup_append] at nd
        exact nd.2.2 f hm f (List.mem_cons_self ..) rfl
      have hl : (done.zip vs0).length < 1000 := by
        rw [List.length_zip, ← h6, Nat.min_self]
        rw [← h8, List.length_append] at sm
        omega
      refine ⟨.ref x, h4, x, C, dx, _, rfl, hr1, cl, na f (by rw [← h8]; simp), hl, ?_⟩
      refine ⟨sa, Hs0, H0, rs0, Hs1, upd Hr1 x (.ins C dx []), rs1, ρ, x, dx, done ++ [f], vs0 ++ [v], ds0 ++ [d], sr.mono e1g, h1, h2, h3, h4, ?_, by simp [h6], Rps.append (Rps.mono e1.ss _ _ h7) (Rps.one rv), by rw [List.append_assoc]; exact h8, ?_⟩
      · rw [upd_upd, putF_new fnew, List.zip_append h6]; rfl
      · refine Post.bind p2 fun ds Hs2 H2 rs2 e2 q vs rvs => ?_
        have := q Hs2 H2 e2.wd.refl (v :: vs) ⟨v, vs, rfl, Rp.mono e2.ss _ _ rv, rvs⟩
        rw [List.append_assoc]; exact this
  | .nil, [], _ :: _, h => by unfold isTail at h; cases h
  | .nil, _ :: _, _, h => by unfold isTail at h; cases h
  | .cons _ _, [], _, h => by unfold isTail at h; cases h
  | .cons _ _, _ :: _, [], h => by unfold isTail at h; cases h
end
end Mp

set_option Elab.async false
set_option linter.all false
set_option maxRecDepth 100000
set_option maxHeartbeats 4000000
/-! Mp, part 20: defs hold their promises. -/
namespace Mp
open PySem PySem.Spec L2
/-- a look at the names of a def's scope -/
def scB (N P : List Str) (sc : Scope) : Bool :=
  decide (sc.kind = .function) && !sc.isCoroutine && !sc.isGenerator && decide N.Nodup && decide (N.take P.length = P) && P.all (fun x => decide (sc.names.lookup x = some .local) || decide (sc.names.lookup x = some .cell)) && sc.names.all (fun y => !decide (y.2 = .free))
theorem scope_by {N P : List Str} {sc : Scope} (h : scB N P sc = true) : FnScope N P sc := by
  unfold scB at h
  simp only [Bool.and_eq_true, Bool.not_eq_true', decide_eq_true_eq, List.all_eq_true, Bool.or_eq_true, decide_eq_false_iff_not] at h
  obtain ⟨⟨⟨⟨⟨⟨h1, h2⟩, h3⟩, h4⟩, h5⟩, h6⟩, h7⟩ := h
  exact ⟨h1, h2, h3, h4, h5, h6, h7⟩
/-- a def of the table in the text -/
structure DefI where
  f : Addr
  fd : FuncData
  st : Stmt
  N : List Str
  ps : List Str
  q : Str
structure DefOk (T : Tab) (B : Bd) (K : PySem.W.Frag) (mg : Str → Option Value) (fn : Fn) (d : DefI) : Prop where
  fu : Fun K fn.name d.q d.st d.f d.fd
  b : Binds K d.fd d.ps []
  nps : d.ps.length = fn.ps
  nN : d.N.length = fn.n
  sc : scB d.N d.ps (defScope d.st) = true
  kd : (fn.kd = 0 ∧ mg fn.name = some (.ref d.f) ∧ isSs T d.N (defScope d.st) fn.body (defBody d.st) = true) ∨
    ((fn.kd = 1 ∨ fn.kd = 3) ∧ (∃ C ns, B.cn fn.c = some (C, ns) ∧ Cls K C ∧ Meth K C fn.name d.f) ∧ isSs T d.N (defScope d.st) fn.body (defBody d.st) = true) ∨
    (fn.kd = 2 ∧ ∃ C cl, T.cls[fn.c]? = some cl ∧ B.cn fn.c = some (C, cl.flds) ∧ Mk K C d.f ∧ 0 < fn.ps ∧ isInit T d.N (defScope d.st) fn.body fn.fs cl.flds (defBody d.st) = true)
structure TabOk (P : Program) (T : Tab) (B : Bd) (con : Nat → Option D) (K : PySem.W.Frag) (mg : Str → Option Value) (ds : List DefI) : Prop where
  hK : K = B.K
  len : ds.length = T.fns.length
  defs : ∀ (i : Nat) fn d, T.fns[i]? = some fn → ds[i]? = some d → DefOk T B K mg fn d
  cls : ∀ (c : Nat) cl, T.cls[c]? = some cl → ∃ C, ClsI B K mg cl c C
  cons : ∀ (i : Nat) x d, T.cons[i]? = some (x, d) → con i = some d ∧ ∃ u v, mg x = some u ∧ RelV v u ∧ ∀ sa H, Rp B.K B.cn sa H d v
  blt : ∀ x ∈ bltNames, mg x = none
  xcs : ∀ c, T.xs.contains c = true → ∃ C, XcI P B mg c C
  xsb : ∀ c x C C' fo fo', B.xc c = some (C, fo) → B.xc x = some (C', fo') → PySem.W.exmOne B.K (.ref C) (.ref C') = some (xsub c x)
def cfgOf (T : Tab) (fuel k : Nat) : Cfg := { con := fun i => (T.cons[i]?).map (·.2), call := callK T fuel (fun _ => none) k, fuel := fuel }
section
variable {T : Tab} {B : Bd} {P : Program} {w : World} {K : PySem.W.Frag} {mg : Str → Option Value} {base : Heap} {ds : List DefI} {fuel : Nat}
/-- the slots at a def's entry -/
theorem sr_start {sa : Addr} {Hs H : Hp} {rs : Rg} {xs : List D} {vs : List V} {N : List Str} {n m : Nat} (w : Wd B sa Hs H rs) (r : Rps B.K B.cn sa Hs xs vs) (hn : N.length = n) (hm : vs.length = m) :
    SR B sa Hs H rs Hs H rs (xs.map (fun d => some (.d d)) ++ List.replicate (n - m) none) (L2.start N vs) := by
  have hx := r.length
  refine ⟨w.sne, w.refl, by unfold L2.start; simp [hn, hm, hx], fun i s e => ?_, fun i j s t v e1 e2 o1 o2 v1 v2 => ?_⟩
  · by_cases hi : i < xs.length
    · rw [List.getElem?_append_left (by simpa using hi)] at e
      rw [List.getElem?_map] at e
      cases hd : xs[i]? with
      | none => rw [hd] at e; cases e
      | some d =>
        rw [hd] at e
        cases e
        obtain ⟨v, h1, h2⟩ := r.get hd
        refine ⟨v, ?_, h2⟩
        unfold L2.start
        rw [List.getElem?_append_left (by simp; omega), List.getElem?_map, h1]; rfl
    · exfalso
      rw [List.getElem?_append_right (by simpa using Nat.le_of_not_lt hi)] at e
      obtain ⟨_, e⟩ := List.getElem?_eq_some_iff.mp e
      rw [List.getElem_replicate] at e
      cases e
  · exfalso
    by_cases hi : i < xs.length
    · rw [List.getElem?_append_left (by simpa using hi), List.getElem?_map] at e1
      cases hd : xs[i]? with
      | none => rw [hd] at e1; cases e1
      | some d => rw [hd] at e1; cases e1; cases o1
    · rw [List.getElem?_append_right (by simpa using Nat.le_of_not_lt hi)] at e1
      obtain ⟨_, e⟩ := List.getElem?_eq_some_iff.mp e1
      rw [List.getElem_replicate] at e
      cases e
theorem spF_len {n : Nat} {c : List D → M D} {vs : List V} {H : Hp} {Q : VK} {E : XK} (h : spF B n c vs H Q E) : vs.length = n := h.1
theorem spI_len {c n : Nat} {cc : List D → M D} {vs : List V} {H : Hp} {Q : VK} {E : XK} (h : spI B c n cc vs H Q E) : vs.length = n := h.1
def lvl (kd : Nat) : Nat := if kd = 2 then 1 else if kd = 3 then 2 else 0
def spK (B : Bd) (fn : Fn) (c : List D → M D) : Sp := if fn.kd = 2 then spI B fn.c fn.ps c else spF B fn.ps c
theorem spK_len {fn : Fn} {cc : List D → M D} {vs : List V} {H : Hp} {Q : VK} {E : XK} (h : spK B fn cc vs H Q E) : vs.length = fn.ps := by
  unfold spK at h
  split at h
  · exact spI_len h
  · exact spF_len h
/-- the context of a def's body; F: each def at the depth that is left to it -/
theorem cx_of (t : TabOk P T B (fun i => (T.cons[i]?).map (·.2)) K mg ds) {k : Nat} (F : ∀ (i : Nat) fn d, T.fns[i]? = some fn → ds[i]? = some d → (∀ xs rs, callK T fuel (fun _ => none) k i xs rs = .stuck) ∧ 0 < lvl fn.kd ∨ ∃ j, j + lvl fn.kd = k ∧ FnOk P w K mg base (L2.CX P w) j d.f d.fd d.ps (spK B fn (callK T fuel (fun _ => none) k i)))
    {N ps : List Str} {qual : Str} {sc : Scope} {f : Addr} {cd : Value} {A : Around} {outer : List PySem.Env} {s : Shared} {H : Hp} {E : XK} (hs : scB N ps sc = true) (hr : Room k (A.deeper (PyProof.Rows.envOfC qual sc s.heap.objs.size f cd))) :
    CxS T B (cfgOf T fuel k) k N sc (cxOf (L2.CX P w) P w K mg base N qual sc f cd A outer s H E) ∧ Takes (cxOf (L2.CX P w) P w K mg base N qual sc f cd A outer s H E) (cW E) := by
  have S := scope_by hs
  have get : ∀ (i : Nat) fn, T.fns[i]? = some fn → ∃ d, ds[i]? = some d ∧ DefOk T B K mg fn d := fun i fn hfn => by
    have hi : i < ds.length := by rw [t.len]; exact (List.getElem?_eq_some_iff.mp hfn).1
    exact ⟨ds[i], List.getElem?_eq_getElem hi, t.defs i fn ds[i] hfn (List.getElem?_eq_getElem hi)⟩
  refine ⟨⟨⟨t.hK, rfl, S.nd, rfl, rfl, hr, fun i fn hfn h0 => ?_, t.cls, fun i fn hfn h1 => ?_, fun i fn hfn h2 => ?_, fun i fn hfn h3 => ?_, t.cons, t.blt⟩, passes_of rfl, fun _ => rfl, S.kind, rfl, rfl, t.xcs, t.xsb⟩, takes_of rfl rfl rfl rfl⟩
  · obtain ⟨d, hd, q⟩ := get i fn hfn
    rcases F i fn d hfn hd with ⟨_, z⟩ | ⟨j, hj, G⟩
    · rw [h0] at z; exact absurd z (by decide)
    · rw [h0] at hj
      obtain rfl : j = k := hj
      unfold spK at G
      rw [if_neg (by omega)] at G
      rcases q.kd with ⟨_, g, _⟩ | ⟨h, _⟩ | ⟨h, _⟩
      · exact ⟨_, _, _, g, q.fu.kp, q.b, q.nps, G⟩
      · omega
      · omega
  · obtain ⟨d, hd, q⟩ := get i fn hfn
    rcases F i fn d hfn hd with ⟨_, z⟩ | ⟨j, hj, G⟩
    · rw [h1] at z; exact absurd z (by decide)
    · rw [h1] at hj
      obtain rfl : j = k := hj
      unfold spK at G
      rw [if_neg (by omega)] at G
      rcases q.kd with ⟨h, _, _⟩ | ⟨h, ⟨C, ns, g1, g2, g3⟩, _⟩ | ⟨h, _⟩
      · omega
      · exact ⟨C, ns, _, _, _, g1, g2, g3, q.b, q.nps, G⟩
      · omega
  · obtain ⟨d, hd, q⟩ := get i fn hfn
    rcases q.kd with ⟨h, _, _⟩ | ⟨h, _⟩ | ⟨h, C, cl, g0, g1, g2, g3, g4⟩
    · omega
    · omega
    · refine ⟨C, _, _, _, _, g1, g2, q.b, q.nps, ?_⟩
      rcases F i fn d hfn hd with ⟨z, _⟩ | ⟨j, hj, G⟩
      · exact .inl z
      · rw [h2] at hj
        unfold spK at G
        rw [if_pos h2] at G
        exact .inr ⟨j, Nat.le_of_eq hj, G⟩
  · obtain ⟨d, hd, q⟩ := get i fn hfn
    rcases q.kd with ⟨h, _, _⟩ | ⟨h, ⟨C, ns, g1, g2, g3⟩, _⟩ | ⟨h, _⟩
    · omega
    · refine ⟨C, ns, _, _, _, g1, g2, g3, q.b, q.nps, ?_⟩
      rcases F i fn d hfn hd with ⟨z, _⟩ | ⟨j, hj, G⟩
      · exact .inl z
      · rw [h3] at hj
        unfold spK at G
        rw [if_neg (by omega)] at G
        exact .inr ⟨j, Nat.le_of_eq hj, G⟩
    · omega
theorem noSt_one {K : PySem.W.Frag} {cn : Nat → Option (Addr × List Str)} {sa : Addr} {H : Hp} {v : V} (h : Rp K cn sa H .st v) : v = .ref sa := h
theorem isTail_len {N : List Str} {sc : Scope} : ∀ (es : Es) (fs : List Str) (l : List Stmt), isTail T N sc es fs l = true → es.len = fs.length
  | .nil, [], [], _ => rfl
  | .cons e r, f :: fs, s :: l, h => by
    unfold isTail at h
    rw [Bool.and_eq_true] at h
    have := isTail_len r fs l h.2
    simp [Es.len, this]
  | .nil, [], _ :: _, h => by unfold isTail at h; cases h
  | .nil, _ :: _, _, h => by unfold isTail at h; cases h
  | .cons _ _, [], _, h => by unfold isTail at h; cases h
  | .cons _ _, _ :: _, [], h => by unfold isTail at h; cases h
/-- a run without the register keeps it -/
theorem Ext.back {sa x : Addr} {Hs H Hs' H' : Hp} {rs : Rg} (w : Wd B sa Hs H rs) (e : Ext B x Hs H none Hs' H' none) : Ext B sa Hs H rs Hs' H' rs := by
  refine ⟨⟨e.wd.sub, ?_, fun xs q => ?_⟩, e.ss, fun b o _ q => e.keep b o (.inr rfl) q, e.new, Iff.rfl⟩
  · obtain ⟨o, h⟩ := some_of w.sne
    exact ne_none (e.keep sa o (.inr rfl) h)
  · obtain ⟨h1, vs, h2, h3⟩ := w.reg xs q
    exact ⟨e.new sa _ h1 h2 (fun _ z => by cases z), vs, e.keep sa _ (.inr rfl) h2, Rps.mono e.ss _ _ h3⟩
/-- a def by its body, at the depth that its calls have -/
theorem body_ok (t : TabOk P T B (fun i => (T.cons[i]?).map (·.2)) K mg ds) {k i : Nat} {fn : Fn} {d : DefI} (F : ∀ (i : Nat) fn d, T.fns[i]? = some fn → ds[i]? = some d → (∀ xs rs, callK T fuel (fun _ => none) k i xs rs = .stuck) ∧ 0 < lvl fn.kd ∨ ∃ j, j + lvl fn.kd = k ∧ FnOk P w K mg base (L2.CX P w) j d.f d.fd d.ps (spK B fn (callK T fuel (fun _ => none) k i)))
    (q : DefOk T B K mg fn d) {c : List D → M D} (hc : ∀ xs, c xs = runFn (cfgOf T fuel k) fn xs) : FnOk P w K mg base (L2.CX P w) (k + 1) d.f d.fd d.ps (spK B fn c) := by
  refine q.fu.okX (scope_by q.sc) (fun vs H Q E h => by rw [spK_len h, q.nps]) fun cdv A outer s H vs Q E hr h => ?_
  obtain ⟨cx, tk⟩ := cx_of (A := A) (outer := outer) (H := H) (E := E) (qual := d.q) (f := d.f) (cd := cdv) t F q.sc hr
  by_cases h2 : fn.kd = 2
  · unfold spK at h
    rw [if_pos h2] at h
    rcases q.kd with ⟨z, _, _⟩ | ⟨z, _⟩ | ⟨_, C, cl, g0, g1, g2, g3, g4⟩
    · omega
    · omega
    obtain ⟨C', ci⟩ := t.cls _ cl g0
    rw [ci.cn] at g1; cases g1
    unfold isInit at g4
    rw [Bool.and_eq_true] at g4
    have tl := sound_tail (Wx := E) cx tk ci.cls ci.na ci.nd ci.sm fn.fs cl.flds _ g4.2
    have pr := soundPre (Wx := E) fn.body _ _ _ cx tk g4.1 tl
    rw [List.take_append_drop] at pr
    refine ⟨_, pr, ?_⟩
    obtain ⟨hl, sa, Hs, H1, xs, rs, x, dx, C', ns, us, rfl, q1, q2, q3, q4, rfl, w, r, p⟩ := h
    rw [ci.cn] at q1; cases q1
    rw [hc] at p
    have e1 : runFn (cfgOf T fuel k) fn xs rs = (if xs.length + 1 = fn.ps ∧ D.noSts xs = true then initK fn rs (fun ρ => M.nox (evalEs (cfgOf T fuel k) false fn.fs ρ)) (execSs (cfgOf T fuel k) fn.body (setD .st :: (xs.map setD ++ List.replicate (fn.n - fn.ps) none)) none) else .stuck) := congrFun (if_pos h2) rs
    rw [e1] at p
    split at p
    case isFalse => exact (show False from p).elim
    case isTrue hx =>
    obtain ⟨hx, hns⟩ := hx
    have hdx : upd H1 dx (.own x) x = none := by rw [upd_ne (Ne.symm q4)]; exact q2
    have e0 := (w.allocO (o := .own x) q3).trans ((w.allocO (o := .own x) q3).wd.allocO (o := .ins C dx []) hdx)
    have nx : x ≠ sa := fun z => w.sne (z ▸ q2)
    have hsx : Hs x = none := by
      cases e : Hs x with
      | none => rfl
      | some o => rw [w.sub x o e] at q2; cases q2
    have hx0 : upd (upd H1 dx (.own x)) x (.ins C dx []) x = some (.ins C dx []) := upd_same
    have wx : Wd B x Hs (upd (upd H1 dx (.own x)) x (.ins C dx [])) none := ⟨e0.wd.sub, ne_none hx0, fun xs z => by cases z⟩
    have rx : Rps B.K B.cn x Hs (D.st :: xs) (.ref x :: us) := ⟨.ref x, us, rfl, rfl, Rps.noSt xs us hns r⟩
    have sr0 := sr_start (n := fn.n) (m := fn.ps) wx rx q.nN hl
    refine ⟨x, Hs, _, none, Hs, none, _, sr0, ?_⟩
    have ee : (List.map (fun d => some (SV.d d)) (D.st :: xs) ++ List.replicate (fn.n - fn.ps) none : Env) = setD .st :: (xs.map setD ++ List.replicate (fn.n - fn.ps) none) := rfl
    show Post B x E Hs _ none (execSs (cfgOf T fuel k) fn.body (List.map (fun d => some (SV.d d)) (D.st :: xs) ++ List.replicate (fn.n - fn.ps) none) none) _
    rw [ee]
    generalize hres : execSs (cfgOf T fuel k) fn.body (setD .st :: (xs.map setD ++ List.replicate (fn.n - fn.ps) none)) none = res at p
    unfold initK at p
    cases res with
    | stuck => exact (show False from p).elim
    | exc c d rs1 =>
      dsimp only at p
      split at p
      case isFalse => exact (show False from p).elim
      case isTrue hd =>
      intro Hs' H' cls dd e ex
      have hrs1 : rs1 = none := e.som.mp rfl
      subst hrs1
      refine p Hs' H' cls dd (e0.trans (Ext.back e0.wd e)) ?_
      obtain ⟨C2, fo, x1, x2, x3⟩ := ex
      refine ⟨C2, fo, x1, x2, ?_⟩
      cases fo with
      | none => exact x3
      | some f =>
        obtain ⟨dx, v, y1, y2, y3⟩ := x3
        exact ⟨dx, v, y1, y2, Rp.noSt d v hd y3⟩
    | ok o rs1 =>
      cases o with
      | ret d => exact (show False from p).elim
      | bk ρ => exact (show False from p).elim
      | ct ρ => exact (show False from p).elim
      | nx ρ =>
        intro Hs' H' e
        have hrs1 : rs1 = none := e.som.mp rfl
        subst hrs1
        intro σ sr
        dsimp only at p
        split at p
        case h_2 => exact (show False from p).elim
        case h_1 hρ =>
        obtain ⟨v0, hσ, hv0⟩ := sr.slot 0 _ hρ
        obtain rfl : v0 = .ref x := hv0
        refine ⟨x, Hs, _, none, Hs', H', none, ρ, x, dx, [], [], [], sr, hx0, hsx, rfl, hσ, ?_, rfl, rfl, rfl, ?_⟩
        · rw [upd_id]; exact e.keep x _ (.inr rfl) hx0
        · generalize hr2 : M.nox (evalEs (cfgOf T fuel k) false fn.fs ρ) none = res2 at p
          cases res2 with
          | stuck => exact (show False from p).elim
          | exc c d rs1 => exact (show False from p).elim
          | ok ds rs2 =>
              dsimp only at p
              split at p
              case isFalse => exact (show False from p).elim
              case isTrue hds =>
              intro Hs2 H2 e2 vs rvs
              have hrs2 : rs2 = none := e2.som.mp rfl
              subst hrs2
              have e3 := e0.trans (Ext.back e0.wd (e.trans e2))
              have hs2 : Hs2 x = none := (e.trans e2).new x _ hsx hx0 (fun _ z => by cases z)
              have h2x : H2 x ≠ none := ne_none ((e.trans e2).keep x _ (.inr rfl) hx0)
              have ss : Same Hs2 (upd Hs2 x (.ins C dx (cl.flds.zip vs))) := fun b u z => by rw [upd_ne (ne_of_none z hs2)]; exact z
              have fin : Ext B sa Hs H1 rs (upd Hs2 x (.ins C dx (cl.flds.zip vs))) (upd H2 x (.ins C dx (cl.flds.zip vs))) rs := by
                refine ⟨⟨fun b u z => ?_, by rw [upd_ne (Ne.symm nx)]; exact e3.wd.sne, fun xs z => ?_⟩, e3.ss.trans ss, fun b u c z => ?_, fun b u z1 z2 n => ?_, Iff.rfl⟩
                · by_cases hb : b = x
                  · subst hb; rw [upd_same] at z ⊢; exact z
                  · rw [upd_ne hb] at z ⊢; exact e3.wd.sub b u z
                · obtain ⟨y1, vs', y2, y3⟩ := e3.wd.reg xs z
                  exact ⟨by rw [upd_ne (Ne.symm nx)]; exact y1, vs', by rw [upd_ne (Ne.symm nx)]; exact y2, Rps.mono ss _ _ y3⟩
                · have hb : b ≠ x := fun y => by rw [y, q2] at z; cases z
                  rw [upd_ne hb]; exact e3.keep b u c z
                · have hb : b ≠ x := fun y => by rw [y, q2] at z2; cases z2
                  rw [upd_ne hb]; exact e3.new b u z1 z2 n
              have hlen : cl.flds.length = vs.length := by
                have h5 : evalEs (cfgOf T fuel k) false fn.fs ρ none = .ok ds none := by
                  unfold M.nox at hr2
                  cases q : evalEs (cfgOf T fuel k) false fn.fs ρ none with
                  | ok a r => rw [q] at hr2; exact hr2
                  | exc c d r => rw [q] at hr2; cases hr2
                  | stuck => rw [q] at hr2; cases hr2
                rw [← rvs.length, evalEs_len _ _ _ _ _ _ h5, isTail_len _ _ _ g4.2]
              exact p _ _ fin ⟨x, C, dx, cl.flds, vs, rfl, ci.cn, upd_same, hlen, Rps.mono ss _ _ (Rps.noSt ds vs hds rvs)⟩
  · unfold spK at h
    rw [if_neg h2] at h
    have hb : isSs T d.N (defScope d.st) fn.body (defBody d.st) = true := by
      rcases q.kd with ⟨_, _, z⟩ | ⟨_, _, z⟩ | ⟨z, _⟩
      · exact z
      · exact z
      · exact absurd z h2
    refine ⟨tSs B (cfgOf T fuel k) E fn.body, soundSs fn.body _ _ E _ cx tk hb, ?_⟩
    obtain ⟨hl, sa, Hs, xs, rs, w, r, p⟩ := h
    rw [hc] at p
    have e1 : runFn (cfgOf T fuel k) fn xs = (if xs.length = fn.ps then
    M.bind (execSs (cfgOf T fuel k) fn.body (xs.map (fun d => some (.d d)) ++ List.replicate (fn.n - fn.ps) none)) fun o => match o with
      | .ret d => .ok d
      | .nx _ => .ok .non
      | _ => .stuck
  else .stuck) := if_neg h2
    rw [e1] at p
    split at p
    case isFalse => exact (show False from p).elim
    case isTrue hx =>
    refine ⟨sa, Hs, H, rs, Hs, rs, _, sr_start (n := fn.n) (m := fn.ps) w r q.nN hl, Post.mono (Post.bindR p) fun o Hs' H' rs' e z => ?_⟩
    cases o with
    | ret d => exact Post.ok' (Wx := E) z e
    | nx ρ => exact fun σ sr => Post.ok' (Wx := E) z e _ rfl
    | bk ρ => exact (show False from z).elim
    | ct ρ => exact (show False from z).elim
theorem callK_ev {k i : Nat} {fn : Fn} (h1 : T.fns[i]? = some fn) (xs : List D) : callK T fuel (fun _ => none) (k + 1) i xs = (if fn.kd = 2 then (match k with
          | 0 => M.stuck
          | j + 1 => runFn (cfgOf T fuel j) fn xs)
        else if fn.kd = 3 then (match k with
          | 0 => M.stuck
          | 1 => M.stuck
          | j + 2 => runFn (cfgOf T fuel j) fn xs)
        else runFn (cfgOf T fuel k) fn xs) := by
  unfold callK
  dsimp only
  rw [h1]
  rfl
/-- calls at the depth k: each def at the depth that is left to it -/
theorem fns_lv (t : TabOk P T B (fun i => (T.cons[i]?).map (·.2)) K mg ds) : ∀ (k i : Nat) fn d, T.fns[i]? = some fn → ds[i]? = some d → (∀ xs rs, callK T fuel (fun _ => none) k i xs rs = .stuck) ∧ 0 < lvl fn.kd ∨ ∃ j, j + lvl fn.kd = k ∧ FnOk P w K mg base (L2.CX P w) j d.f d.fd d.ps (spK B fn (callK T fuel (fun _ => none) k i)) := by
  intro k
  induction k using Nat.strongRecOn with
  | ind k ih =>
    intro i fn d h1 h2
    have q := t.defs i fn d h1 h2
    cases k with
    | zero =>
      by_cases hl : 0 < lvl fn.kd
      · exact .inl ⟨fun xs rs => rfl, hl⟩
      · refine .inr ⟨0, by omega, ⟨fun vs H Q E h => by rw [spK_len h, q.nps], fun A outer s H args us vs Q E hr e0 hb hv h => ?_⟩⟩
        have hk : fn.kd ≠ 2 := fun z => hl (by rw [z]; decide)
        unfold spK at h
        rw [if_neg hk] at h
        obtain ⟨_, sa, Hs, xs, rs, w, r, p⟩ := h
        exact p.elim
    | succ k =>
      have ev := callK_ev (T := T) (fuel := fuel) (k := k) h1
      by_cases k2 : fn.kd = 2
      · have hl : lvl fn.kd = 1 := by rw [k2]; rfl
        cases k with
        | zero => exact .inl ⟨fun xs rs => by rw [ev, if_pos k2] <;> rfl, by omega⟩
        | succ j => exact .inr ⟨j + 1, by omega, body_ok t (k := j) (i := i) (fun i fn d => ih j (by omega) i fn d) q fun xs => by rw [ev, if_pos k2]⟩
      · by_cases k3 : fn.kd = 3
        · have hl : lvl fn.kd = 2 := by rw [k3]; rfl
          cases k with
          | zero => exact .inl ⟨fun xs rs => by rw [ev, if_neg k2, if_pos k3] <;> rfl, by omega⟩
          | succ j =>
            cases j with
            | zero => exact .inl ⟨fun xs rs => by rw [ev, if_neg k2, if_pos k3] <;> rfl, by omega⟩
            | succ j => exact .inr ⟨j + 1, by omega, body_ok t (k := j) (i := i) (fun i fn d => ih j (by omega) i fn d) q fun xs => by rw [ev, if_neg k2, if_pos k3]⟩
        · have hl : lvl fn.kd = 0 := by unfold lvl; rw [if_neg k2, if_neg k3]
          exact .inr ⟨k + 1, by omega, body_ok t (k := k) (i := i) (fun i fn d => ih k (by omega) i fn d) q fun xs => by rw [ev, if_neg k2, if_neg k3]⟩
end
end Mp

set_option Elab.async false
set_option linter.all false
set_option maxRecDepth 100000
set_option maxHeartbeats 4000000
/-! Mp, part 21: the law's def. -/
namespace Mp
open PySem PySem.Spec L2
def spLaw (K : PySem.W.Frag) : Sp := fun vs H Q E => ∃ (a : Addr) (ns : List Int), vs = [.ref a] ∧ ns.length ≤ 63 ∧ H a ≠ none ∧ SqL K H a (ns.map V.int) ∧ ∀ v H', v = .bl true → Q v H'
section
variable {T : Tab} {B : Bd} {P : Program} {w : World} {K : PySem.W.Frag} {mg : Str → Option Value} {base : Heap} {ds : List DefI} {fuel : Nat}
theorem law_fn {x : Str} {st s1 : Stmt} {r : List Stmt} {f : Addr} {fd : FuncData} {N : List Str} {rest : Ss} {i j k n : Nat} (t : TabOk P T B (fun i => (T.cons[i]?).map (·.2)) K mg ds) (fu : Fun K "law" "law" st f fd) (sc : scB N [x] (defScope st) = true)
    (hb : defBody st = s1 :: r) (h1 : isS T N (defScope st) (.set j (.call i (.cons (.slot 0) .nil))) s1 = true) (h2 : isSs T N (defScope st) rest r = true) (hn : N.length = n) (hj : j < n)
    (pure : ∀ ns : List Int, ns.length ≤ 63 → ∃ ls rs', callK T fuel (fun _ => none) k i [.scr (dI ns)] none = .ok (.lst (dI ls)) none ∧
      execSs (cfgOf T fuel k) rest ((List.replicate n none).set j (some (.d .st))) (some (dI ls)) = .ok (.ret (.bl true)) rs') :
    FnOk P w K mg base (L2.CX P w) (k + 1) f fd [x] (spLaw K) := by
  refine fu.okX (scope_by sc) (fun vs H Q E ⟨a, ns, e, _⟩ => by rw [e]; rfl) fun cdv A outer s H vs Q E hr h => ?_
  obtain ⟨cx, tk⟩ := cx_of (fuel := fuel) (A := A) (outer := outer) (H := H) (E := E) (qual := "law") (f := f) (cd := cdv) t (fns_lv t k) sc hr
  unfold isS at h1
  split at h1
  case h_2 => cases h1
  case h_1 =>
  rename_i y py e' ps'
  simp only [Bool.and_eq_true, decide_eq_true_eq] at h1
  obtain ⟨⟨⟨a1, a2⟩, a3⟩, a4⟩ := h1
  rw [hb]
  refine ⟨_, pss_cons (s_asg cx tk a1 a2 a3 a4).1 (soundSs rest _ _ E _ cx tk h2), ?_⟩
  obtain ⟨a, ns, rfl, hl, hH, hS, q⟩ := h
  obtain ⟨ls, rs', p1, p2⟩ := pure ns hl
  have w0 : Wd B a H H none := ⟨Same.refl _, hH, fun xs z => by cases z⟩
  have rp : Rps B.K B.cn a H [D.scr (dI ns)] [V.ref a] := Rps.one ⟨a, _, rfl, t.hK ▸ hS, Rps.ints_iff.mpr rfl⟩
  have sr := sr_start (N := N) (n := n) (m := 1) w0 rp hn rfl
  refine ⟨a, H, H, none, H, none, _, sr, ?_⟩
  have ev : evalE (cfgOf T fuel k) false (.call i (.cons (.slot 0) .nil)) (List.map (fun d => some (SV.d d)) [D.scr (dI ns)] ++ List.replicate (n - 1) none) none = .ok (.lst (dI ls)) none := p1
  rw [ev]
  intro Hs' H' e v rv
  unfold RpB at rv
  rw [if_neg (by simp)] at rv
  obtain ⟨b, us, rfl, g1, g2⟩ := rv
  have g3 := e.wd.sub _ _ g1
  have eu := Rps.ints_iff.mp g2
  have wd : Wd B b (fun _ => none) H' (some (dI ls)) := ⟨fun _ _ z => (by cases z), ne_none g3, fun xs z => (by cases z; exact ⟨rfl, us, g3, Rps.ints_iff.mpr eu⟩)⟩
  have hlen : (L2.start N [V.ref a]).length = n := by unfold L2.start; simp; omega
  refine ⟨b, fun _ => none, H', some (dI ls), fun _ => none, some (dI ls), (List.replicate n none).set j (some (.d .st)), ⟨ne_none g3, wd.refl, by simp [hlen], fun l s' z => ?_, fun l m s' t' u z1 z2 o1 o2 _ _ => ?_⟩, ?_⟩
  · by_cases hlj : j = l
    · subst hlj
      rw [List.getElem?_set_self (by simpa using hj)] at z
      cases z
      exact ⟨.ref b, by rw [List.getElem?_set_self (by rw [hlen]; exact hj)], rfl⟩
    · exfalso
      rw [List.getElem?_set_ne hlj] at z
      obtain ⟨_, z⟩ := List.getElem?_eq_some_iff.mp z
      rw [List.getElem_replicate] at z
      cases z
  · exfalso
    by_cases hlj : j = l
    · subst hlj
      rw [List.getElem?_set_self (by simpa using hj)] at z1
      cases z1; cases o1
    · rw [List.getElem?_set_ne hlj] at z1
      obtain ⟨_, z⟩ := List.getElem?_eq_some_iff.mp z1
      rw [List.getElem_replicate] at z
      cases z
  · show Post B b E (fun _ => none) H' (some (dI ls)) (execSs (cfgOf T fuel k) rest ((List.replicate n none).set j (some (.d .st))) (some (dI ls))) _
    rw [p2]
    exact fun Hs2 H2 e2 v rv => q v H2 rv
theorem lookup_mem (a : Addr) (o : Obj) : ∀ (K : PySem.W.Frag), K.lookup a = some o → (a, o) ∈ K
  | [], h => by cases h
  | (b, u) :: r, h => by
    rw [List.lookup_cons] at h
    split at h
    · rename_i e
      cases h
      rw [beq_iff_eq] at e
      subst e
      exact List.mem_cons_self ..
    · exact List.mem_cons_of_mem _ (lookup_mem a o r h)
/-- the law at the heap behind the top -/
theorem hsp_law {K : PySem.W.Frag} (nl : (K.all fun p => !(p.2.cls == .type "list")) = true) {H : Hp} {a : Addr} {ns : List Int} (hl : ns.length ≤ 63) (hS : SqL K H a (ns.map V.int)) : spLaw K [.ref a] H (fun v _ => v = .bl true) fun _ _ _ => False := by
  refine ⟨a, ns, rfl, hl, ?_, hS, fun v H' e => e⟩
  rcases hS with (h | ⟨o, h⟩) | ⟨o, its, n, h1, h2, _⟩
  · exact ne_none h
  · exact ne_none h
  · exfalso
    have hm := lookup_mem a o K h1
    rw [List.all_eq_true] at nl
    have := nl _ hm
    rw [h2] at this
    simp at this
end
end Mp

set_option Elab.async false
set_option linter.all false
set_option maxRecDepth 100000
set_option maxHeartbeats 4000000
namespace Mp
open PySem
theorem bind_ok' {α β : Type} {m : M α} {f : α → M β} {rs rs1 : Rg} {a : α} (h : m rs = .ok a rs1) : M.bind m f rs = f a rs1 := by unfold M.bind; rw [h]
theorem dI_cons (a : Int) (l : List Int) : dI (a :: l) = .int a :: dI l := rfl
theorem dI_len (l : List Int) : (dI l).length = l.length := by simp [dI]
theorem cmp_eq_int (i j : Int) : evalCmp .eq (.int i) (.int j) = some (decide (i = j)) := by
  simp [evalCmp, D.eq, D.py, PyData.depth, PyData.eqv]
  rw [Bool.eq_iff_iff]; simp
theorem cmp_ne_int (i j : Int) : evalCmp .ne (.int i) (.int j) = some (!decide (i = j)) := by
  simp [evalCmp, D.eq, D.py, PyData.depth, PyData.eqv]
  rw [Bool.eq_iff_iff]; simp
theorem cmp_lt_int (i j : Int) : evalCmp .lt (.int i) (.int j) = some (decide (i < j)) := by
  simp [evalCmp, D.lt, D.py, PyData.depth, ltP]
theorem cmp_le_int (i j : Int) : evalCmp .le (.int i) (.int j) = some (decide (i ≤ j)) := rfl
theorem cmp_gt_int (i j : Int) : evalCmp .gt (.int i) (.int j) = some (decide (j < i)) := rfl
theorem cmp_ge_int (i j : Int) : evalCmp .ge (.int i) (.int j) = some (decide (j ≤ i)) := rfl
theorem slot_ev {G : Cfg} {pk : Bool} {i : Nat} {ρ : Env} {rs : Rg} {d : D} (h : ρ[i]? = some (some (.d d))) : evalE G pk (.slot i) ρ rs = .ok d rs := by
  unfold evalE
  rw [h]; rfl
theorem slot_evO {G : Cfg} {i : Nat} {ρ : Env} {rs : Rg} {xs : List D} (h : ρ[i]? = some (some (.ol xs))) : evalE G true (.slot i) ρ rs = .ok (.lst xs) rs := by
  unfold evalE
  rw [h]; rfl
theorem unI_dI : ∀ l : List Int, unI (dI l) = some l
  | [] => rfl
  | a :: l => by rw [dI_cons]; unfold unI; rw [unI_dI l]
end Mp

set_option Elab.async false
set_option linter.all false
set_option maxRecDepth 100000
set_option maxHeartbeats 4000000
/-! Ty, part 1: typed plain functions in the monad M, and when the evaluator follows them. -/
namespace Mp
open PySem
def Sim {α β : Type} (f : α → β) (m : M β) (t : M α) : Prop := ∀ rs, match t rs with
  | .ok a rs' => m rs = .ok (f a) rs'
  | .exc c d rs' => m rs = .exc c d rs'
  | .stuck => True
def SimR {α β : Type} (R : α → β → Prop) (m : M β) (t : M α) : Prop := ∀ rs, match t rs with
  | .ok a rs' => ∃ b, m rs = .ok b rs' ∧ R a b
  | .exc c d rs' => m rs = .exc c d rs'
  | .stuck => True
section
variable {α β γ δ : Type} {f : α → β} {g : γ → δ} {m : M β} {t : M α}
theorem Sim.ok {a : α} : Sim f (M.ok (f a)) (M.ok a) := fun _ => rfl
theorem Sim.ok' {a : α} {b : β} (h : b = f a) : Sim f (M.ok b) (M.ok a) := by subst h; exact Sim.ok
theorem Sim.stuck : Sim f m M.stuck := fun _ => True.intro
theorem Sim.exc {c : Nat} {d : D} : Sim f (M.exc c d) (M.exc c d) := fun _ => rfl
theorem Sim.bind {k : β → M δ} {u : α → M γ} (h : Sim f m t) (hk : ∀ a, Sim g (k (f a)) (u a)) : Sim g (M.bind m k) (M.bind t u) := fun rs => by
  have h := h rs
  unfold M.bind
  cases e : t rs with
  | ok a rs' => rw [e] at h; dsimp only at h ⊢; rw [h]; exact hk a rs'
  | exc c d rs' => rw [e] at h; dsimp only at h ⊢; rw [h]
  | stuck => exact True.intro
theorem Sim.bindR {k : β → M δ} {u : α → M γ} {R : γ → δ → Prop} (h : Sim f m t) (hk : ∀ a, SimR R (k (f a)) (u a)) : SimR R (M.bind m k) (M.bind t u) := fun rs => by
  have h := h rs
  unfold M.bind
  cases e : t rs with
  | ok a rs' => rw [e] at h; dsimp only at h ⊢; rw [h]; exact hk a rs'
  | exc c d rs' => rw [e] at h; dsimp only at h ⊢; rw [h]
  | stuck => exact True.intro
theorem SimR.bind {k : β → M δ} {u : α → M γ} {R : α → β → Prop} {R' : γ → δ → Prop} (h : SimR R m t) (hk : ∀ a b, R a b → SimR R' (k b) (u a)) : SimR R' (M.bind m k) (M.bind t u) := fun rs => by
  have h := h rs
  unfold M.bind
  cases e : t rs with
  | ok a rs' => rw [e] at h; obtain ⟨b, h1, h2⟩ := h; dsimp only; rw [h1]; exact hk a b h2 rs'
  | exc c d rs' => rw [e] at h; dsimp only at h ⊢; rw [h]
  | stuck => exact True.intro
theorem SimR.ok {R : α → β → Prop} {a : α} {b : β} (h : R a b) : SimR R (M.ok b) (M.ok a) := fun _ => ⟨b, rfl, h⟩
theorem SimR.stuck {R : α → β → Prop} : SimR R m M.stuck := fun _ => True.intro
theorem SimR.exc {R : α → β → Prop} {c : Nat} {d : D} : SimR R (M.exc c d) (M.exc c d) := fun _ => rfl
theorem SimR.sim (h : SimR (fun a b => b = f a) m t) : Sim f m t := fun rs => by
  have h := h rs
  cases e : t rs with
  | ok a rs' => rw [e] at h; obtain ⟨b, h1, h2⟩ := h; dsimp only; rw [h1, h2]
  | exc c d rs' => rw [e] at h; exact h
  | stuck => exact True.intro
theorem Sim.R (h : Sim f m t) : SimR (fun a b => b = f a) m t := fun rs => by
  have h := h rs
  cases e : t rs with
  | ok a rs' => rw [e] at h; exact ⟨_, h, rfl⟩
  | exc c d rs' => rw [e] at h; exact h
  | stuck => exact True.intro
theorem SimR.mono {R R' : α → β → Prop} (h : SimR R m t) (k : ∀ a b, R a b → R' a b) : SimR R' m t := fun rs => by
  have h := h rs
  cases e : t rs with
  | ok a rs' => rw [e] at h; obtain ⟨b, h1, h2⟩ := h; exact ⟨b, h1, k a b h2⟩
  | exc c d rs' => rw [e] at h; exact h
  | stuck => exact True.intro
theorem Sim.opt {o : Option β} {o' : Option α} (h : ∀ a, o' = some a → o = some (f a)) : Sim f (M.opt o) (M.opt o') := fun rs => by
  cases o' with
  | none => exact True.intro
  | some a => rw [h a rfl]; rfl
theorem Sim.nox (h : Sim f m t) : Sim f (M.nox m) (M.nox t) := fun rs => by
  have h := h rs
  unfold M.nox
  cases e : t rs with
  | ok a rs' => rw [e] at h; dsimp only at h ⊢; rw [h]
  | exc c d rs' => exact True.intro
  | stuck => exact True.intro
/-- what is wanted of a result -/
theorem Sim.run {rs rs' : Rg} {a : α} (h : Sim f m t) (e : t rs = .ok a rs') : m rs = .ok (f a) rs' := by
  have h := h rs; rw [e] at h; exact h
end
/-! ### monad laws, for simp -/
theorem bind_okl {α β : Type} (a : α) (f : α → M β) : M.bind (M.ok a) f = f a := rfl
theorem bind_assoc {α β γ : Type} (m : M α) (f : α → M β) (g : β → M γ) : M.bind (M.bind m f) g = M.bind m fun a => M.bind (f a) g := by
  funext rs; unfold M.bind; cases m rs <;> rfl
theorem bind_okr {α : Type} (m : M α) : M.bind m M.ok = m := by
  funext rs; unfold M.bind; cases e : m rs <;> rfl
theorem opt_some {α : Type} (a : α) : M.opt (some a) = M.ok a := rfl
theorem nox_okl {α : Type} (a : α) : M.nox (M.ok a) = M.ok a := rfl
/-! ### encoders -/
@[reducible] def eT {α : Type} (e : α → D) : List α → D := fun l => .tup (l.map e)
@[reducible] def eL {α : Type} (e : α → D) : List α → D := fun l => .lst (l.map e)
@[reducible] def eK {α : Type} (e : α → D) : List α → D := fun l => .ktp (l.map e)
@[reducible] def eC {α : Type} (e : α → D) : List α → D := fun l => .scr (l.map e)
@[reducible] def eP2 {α β : Type} (e : α → D) (f : β → D) : α × β → D := fun x => .tup [e x.1, f x.2]
@[reducible] def eP3 {α β γ : Type} (e : α → D) (f : β → D) (g : γ → D) : α × β × γ → D := fun x => .tup [e x.1, f x.2.1, g x.2.2]
@[reducible] def eP4 {α β γ δ : Type} (e : α → D) (f : β → D) (g : γ → D) (h : δ → D) : α × β × γ × δ → D := fun x => .tup [e x.1, f x.2.1, g x.2.2.1, h x.2.2.2]
def eO {α : Type} (e : α → D) : Option α → D
  | none => .non
  | some a => e a
@[reducible] def eU : Unit → D := fun _ => .non
/-- a dict: its pairs -/
@[reducible] def eD {α β : Type} (t : Bool) (e : α → D) (f : β → D) : List (α × β) → D := fun l => .dic t (l.map fun p => e p.1) (l.map fun p => f p.2)
/-! ### typed operations -/
def tB1 {α β : Type} (f : α → M β) (a : M α) : M β := M.bind a f
def tB2 {α β γ : Type} (f : α → β → M γ) (a : M α) (b : M β) : M γ := M.bind a fun x => M.bind b fun y => f x y
def oAdd (x y : Int) : M Int := M.ok (x + y)
def oSub (x y : Int) : M Int := M.ok (x - y)
@[irreducible] def oMul (x y : Int) : M Int := if small x || small y then M.ok (x * y) else M.stuck
@[irreducible] def oDiv (x y : Int) : M Int := if y ≠ 0 ∧ y.natAbs < 1073741824 then M.ok (x.fdiv y) else M.stuck
@[irreducible] def oMod (x y : Int) : M Int := if y ≠ 0 then M.ok (x.fmod y) else M.stuck
@[irreducible] def oPow (x y : Int) : M Int := if 0 ≤ y ∧ y ≤ 1000000 ∧ x.natAbs < 2 ^ 64 then M.ok (x ^ y.toNat) else M.stuck
@[irreducible] def oCat {α : Type} (x y : List α) : M (List α) := if x.length + y.length ≤ lim then M.ok (x ++ y) else M.stuck
@[irreducible] def oSCat (x y : Str) : M Str := if x.length + y.length ≤ lim then M.ok (x ++ y) else M.stuck
@[irreducible] def oRep {α : Type} (x : List α) (k : Int) : M (List α) := if 0 ≤ k ∧ k ≤ 1000 ∧ x.length ≤ 1000 then M.ok (List.replicate k.toNat x).flatten else M.stuck
def oNeg (x : Int) : M Int := M.ok (-x)
def oLt (x y : Int) : M Bool := M.ok (decide (x < y))
def oLe (x y : Int) : M Bool := M.ok (decide (x ≤ y))
def oGt (x y : Int) : M Bool := M.ok (decide (y < x))
def oGe (x y : Int) : M Bool := M.ok (decide (y ≤ x))
def oEq {α : Type} [DecidableEq α] (x y : α) : M Bool := M.ok (decide (x = y))
def oNe {α : Type} [DecidableEq α] (x y : α) : M Bool := M.ok (!decide (x = y))
def oIn {α : Type} [DecidableEq α] (x : α) (l : List α) : M Bool := M.ok (decide (x ∈ l))
def oNin {α : Type} [DecidableEq α] (x : α) (l : List α) : M Bool := M.ok (!decide (x ∈ l))
def oNot (x : Bool) : M Bool := M.ok (!x)
def oIx {α : Type} (l : List α) (i : Int) : M α := M.opt (L2.atI l i)
def cutL {α : Type} (xs : List α) (lo hi : Option Int) : List α := (xs.drop (HT.sIx xs.length 0 lo)).take (HT.sIx xs.length xs.length hi - HT.sIx xs.length 0 lo)
def oLen {α : Type} (l : List α) : M Int := M.ok (l.length : Int)
def oAbs (i : Int) : M Int := M.ok (if i < 0 then -i else i)
def oB2i (b : Bool) : M Int := M.ok (if b then 1 else 0)
def oSum (l : List Int) : M Int := M.ok l.sum
def oMax2 (i j : Int) : M Int := M.ok (if j > i then j else i)
def oMin2 (i j : Int) : M Int := M.ok (if j < i then j else i)
def oMaxL (l : List Int) : M Int := match l with | [] => M.stuck | x :: r => M.ok (maxI x r)
def oMinL (l : List Int) : M Int := match l with | [] => M.stuck | x :: r => M.ok (minI x r)
def oAll (l : List Bool) : M Bool := M.ok (l.all id)
def oAny (l : List Bool) : M Bool := M.ok (l.any id)
@[irreducible] def oRng1 (i : Int) : M (List Int) := if small62 i then M.ok ((List.range i.toNat).map fun (k : Nat) => (k : Int)) else M.stuck
@[irreducible] def oRng2 (i j : Int) : M (List Int) := if small62 i && small62 j then M.ok ((List.range (j - i).toNat).map fun (k : Nat) => i + (k : Int)) else M.stuck
@[irreducible] def oRng3 (i j k : Int) : M (List Int) := if small62 i && small62 j && decide (k = -1) then M.ok ((List.range (i - j).toNat).map fun (k : Nat) => i + (k : Int) * (-1)) else M.stuck
def oCk {α : Type} (l : List α) : M (List α) := if l.length ≤ lim then M.ok l else M.stuck
def tIf {α : Type} (c : M Bool) (a b : M α) : M α := M.bind c fun z => if z then a else b
def tAnd (a b : M Bool) : M Bool := tIf a b (M.ok false)
def tOr (a b : M Bool) : M Bool := tIf a (M.ok true) b
def tMapO {α β : Type} (f : α → M (Option β)) : List α → M (List β)
  | [] => M.ok []
  | x :: r => M.bind (f x) fun y => M.bind (tMapO f r) fun ys => M.ok (match y with | some y => y :: ys | none => ys)
def tMap {α β : Type} (f : α → M β) : List α → M (List β)
  | [] => M.ok []
  | x :: r => M.bind (f x) fun y => M.bind (tMap f r) fun ys => M.ok (y :: ys)
/-- a comprehension without a test -/
def tComp {α β : Type} (l : M (List α)) (f : α → M β) : M (List β) := M.bind l fun xs => if xs.length ≤ lim then M.nox (tMap f xs) else M.stuck
def tCompI {α β : Type} (l : M (List α)) (c : α → M Bool) (f : α → M β) : M (List β) :=
  M.bind l fun xs => if xs.length ≤ lim then M.nox (tMapO (fun x => M.bind (c x) fun k => if k then M.bind (f x) fun y => M.ok (some y) else M.ok none) xs) else M.stuck
def tListOf {α : Type} : List (M α) → M (List α)
  | [] => M.ok []
  | x :: r => M.bind x fun y => M.bind (tListOf r) fun ys => M.ok (y :: ys)
def tDyn {α : Type} (e : α → D) (t : M α) : M D := M.bind t fun a => M.ok (e a)
def tSome {α : Type} (t : M α) : M (Option α) := M.bind t fun a => M.ok (some a)
def oCast {α : Type} (dec : D → Option α) (d : D) : M α := M.opt (dec d)
/-! ### loops -/
inductive TO (σ β : Type) where
  | nx (s : σ) | bk (s : σ) | ret (b : β)
def tFor {α σ β : Type} (f : α → σ → M (TO σ β)) : List α → σ → M (TO σ β)
  | [], s => M.ok (.nx s)
  | x :: r, s => M.bind (f x s) fun o => match o with
    | .nx s' => tFor f r s'
    | .bk s' => M.ok (.nx s')
    | .ret b => M.ok (.ret b)
def tForS {α σ : Type} (f : α → σ → M σ) : List α → σ → M σ
  | [], s => M.ok s
  | x :: r, s => M.bind (f x s) fun s' => tForS f r s'
def tWhile {σ β : Type} (c : σ → M Bool) (f : σ → M (TO σ β)) : Nat → σ → M (TO σ β)
  | 0, _ => M.stuck
  | n + 1, s => M.bind (c s) fun z => if z then M.bind (f s) fun o => match o with
      | .nx s' => tWhile c f n s'
      | .bk s' => M.ok (.nx s')
      | .ret b => M.ok (.ret b)
    else M.ok (.nx s)
def tWhileS {σ : Type} (c : σ → M Bool) (f : σ → M σ) : Nat → σ → M σ
  | 0, _ => M.stuck
  | n + 1, s => M.bind (c s) fun z => if z then M.bind (f s) fun s' => tWhileS c f n s' else M.ok s
/-- behind a loop -/
def tAfter {σ β γ : Type} (l : M (TO σ β)) (k : σ → M γ) (r : β → M γ) : M γ := M.bind l fun o => match o with
  | .nx s => k s
  | .bk s => k s
  | .ret b => r b
/-! ### the register of ints -/
def rGet (k : Int) : M Int := fun rs => match rs with
  | some l => (match L2.atI l k with | some (.int i) => .ok i rs | _ => .stuck)
  | none => .stuck
def rPut (k : Int) (v : Int) : M Unit := fun rs => match rs with
  | some l => (match L2.ixN l.length k with | some j => .ok () (some (l.set j (.int v))) | none => .stuck)
  | none => .stuck
def rLen : M Int := fun rs => match rs with
  | some l => .ok (l.length : Int) rs
  | none => .stuck
def rPop (k : Int) : M Int := fun rs => match rs with
  | some l => (match seqIndex? k l.length with
    | some j => (match l[j]? with | some (.int v) => if small62 k then .ok v (some (l.eraseIdx j)) else .stuck | _ => .stuck)
    | none => .stuck)
  | none => .stuck
end Mp

set_option Elab.async false
set_option linter.all false
set_option maxRecDepth 100000
set_option maxHeartbeats 4000000
/-! Ty, part 2: expressions. -/
namespace Mp
open PySem
abbrev Ev (G : Cfg) (pk : Bool) (e : E) (ρ : Env) {α : Type} (enc : α → D) (t : M α) : Prop := Sim enc (evalE G pk e ρ) t
/-! ### equality of data -/
structure EqOK {α : Type} [DecidableEq α] (e : α → D) (n : Nat) : Prop where
  ex : ∃ q : α → PyData, (∀ a, (e a).py = some (q a)) ∧ (∀ a, (q a).depth ≤ n) ∧ ∀ a b, PyData.eqv (q a) (q b) = decide (a = b)
section
variable {α β γ δ : Type} [DecidableEq α] [DecidableEq β] [DecidableEq γ] [DecidableEq δ] {e : α → D} {f : β → D} {g : γ → D} {h : δ → D} {n m k : Nat}
theorem eq_int : EqOK D.int 0 := ⟨PyData.int, fun _ => rfl, fun _ => Nat.le_refl _, fun a b => by show (a == b) = _; by_cases h : a = b <;> simp [h]⟩
theorem eq_bool : EqOK D.bl 0 := ⟨PyData.bool, fun _ => rfl, fun _ => Nat.le_refl _, fun a b => by show (a == b) = _; by_cases h : a = b <;> simp [h]⟩
theorem eq_str : EqOK D.str 0 := ⟨PyData.str, fun _ => rfl, fun _ => Nat.le_refl _, fun a b => by show (a == b) = _; by_cases h : a = b <;> simp [h]⟩
theorem EqOK.up (H : EqOK e n) (h : n ≤ m) : EqOK e m := by
  obtain ⟨q, h1, h2, h3⟩ := H
  exact ⟨q, h1, fun a => Nat.le_trans (h2 a) h, h3⟩
theorem pys_mapG {q : α → PyData} (h : ∀ a, (e a).py = some (q a)) : ∀ l : List α, D.pys (l.map e) = some (l.map q)
  | [] => rfl
  | a :: l => by rw [List.map_cons, D.pys, h a, pys_mapG h l]; rfl
theorem depthAll_mapG {q : α → PyData} (h : ∀ a, (q a).depth ≤ n) : ∀ l : List α, PyData.depthAll (l.map q) ≤ n
  | [] => Nat.zero_le _
  | a :: l => Nat.max_le.mpr ⟨h a, depthAll_mapG h l⟩
theorem eqvAll_mapG {q : α → PyData} (h : ∀ a b, PyData.eqv (q a) (q b) = decide (a = b)) : ∀ x y : List α, PyData.eqvAll (x.map q) (y.map q) = decide (x = y)
  | [], [] => rfl
  | [], _ :: _ => rfl
  | _ :: _, [] => rfl
  | a :: x, b :: y => by
    show (PyData.eqv (q a) (q b) && PyData.eqvAll (x.map q) (y.map q)) = _
    rw [h, eqvAll_mapG h x y]
    by_cases h1 : a = b <;> by_cases h2 : x = y <;> simp [h1, h2]
theorem eq_T (H : EqOK e n) : EqOK (eT e) (n + 1) := by
  obtain ⟨q, h1, h2, h3⟩ := H
  refine ⟨fun l => .tuple (l.map q), fun l => ?_, fun l => Nat.succ_le_succ (depthAll_mapG h2 l), fun a b => ?_⟩
  · show (match D.pys (l.map e) with | some l => some (PyData.tuple l) | none => none) = _
    rw [pys_mapG h1]
  · exact eqvAll_mapG h3 a b
theorem eq_L (H : EqOK e n) : EqOK (eL e) (n + 1) := by
  obtain ⟨q, h1, h2, h3⟩ := H
  refine ⟨fun l => .list (l.map q), fun l => ?_, fun l => Nat.succ_le_succ (depthAll_mapG h2 l), fun a b => ?_⟩
  · show (match D.pys (l.map e) with | some l => some (PyData.list l) | none => none) = _
    rw [pys_mapG h1]
  · exact eqvAll_mapG h3 a b
theorem eq_P2 (H1 : EqOK e n) (H2 : EqOK f n) : EqOK (eP2 e f) (n + 1) := by
  obtain ⟨q, h1, h2, h3⟩ := H1
  obtain ⟨r, i1, i2, i3⟩ := H2
  refine ⟨fun x => .tuple [q x.1, r x.2], fun x => ?_, fun x => Nat.succ_le_succ (Nat.max_le.mpr ⟨h2 _, Nat.max_le.mpr ⟨i2 _, Nat.zero_le _⟩⟩), fun a b => ?_⟩
  · simp [D.py, D.pys, h1, i1]
  · show (PyData.eqv _ _ && (PyData.eqv _ _ && true)) = _
    rw [h3, i3]
    obtain ⟨a1, a2⟩ := a; obtain ⟨b1, b2⟩ := b
    by_cases z1 : a1 = b1 <;> by_cases z2 : a2 = b2 <;> simp [z1, z2]
theorem eq_P3 (H1 : EqOK e n) (H2 : EqOK f n) (H3 : EqOK g n) : EqOK (eP3 e f g) (n + 1) := by
  obtain ⟨q, h1, h2, h3⟩ := H1
  obtain ⟨r, i1, i2, i3⟩ := H2
  obtain ⟨s, j1, j2, j3⟩ := H3
  refine ⟨fun x => .tuple [q x.1, r x.2.1, s x.2.2], fun x => ?_, fun x => Nat.succ_le_succ (Nat.max_le.mpr ⟨h2 _, Nat.max_le.mpr ⟨i2 _, Nat.max_le.mpr ⟨j2 _, Nat.zero_le _⟩⟩⟩), fun a b => ?_⟩
  · simp [D.py, D.pys, h1, i1, j1]
  · show (PyData.eqv _ _ && (PyData.eqv _ _ && (PyData.eqv _ _ && true))) = _
    rw [h3, i3, j3]
    obtain ⟨a1, a2, a3⟩ := a; obtain ⟨b1, b2, b3⟩ := b
    by_cases z1 : a1 = b1 <;> by_cases z2 : a2 = b2 <;> by_cases z3 : a3 = b3 <;> simp [z1, z2, z3]
/-- None or a thing that is never None -/
theorem eq_O (H : EqOK e n) (hn : ∀ a q, (e a).py = some q → PyData.eqv .none q = false ∧ PyData.eqv q .none = false) : EqOK (eO e) n := by
  obtain ⟨q, h1, h2, h3⟩ := H
  refine ⟨fun x => match x with | none => .none | some a => q a, fun x => ?_, fun x => ?_, fun a b => ?_⟩
  · cases x with
    | none => rfl
    | some a => exact h1 a
  · cases x with
    | none => exact Nat.zero_le _
    | some a => exact h2 a
  · cases a with
    | none =>
      cases b with
      | none => rfl
      | some b => exact (hn b _ (h1 b)).1
    | some a =>
      cases b with
      | none => exact (hn a _ (h1 a)).2
      | some b => show PyData.eqv (q a) (q b) = _; rw [h3]; by_cases z : a = b <;> simp [z]
theorem EqOK.eq (H : EqOK e n) (h : n ≤ 60) (x y : α) : D.eq (e x) (e y) = some (decide (x = y)) := by
  obtain ⟨q, h1, h2, h3⟩ := H
  unfold D.eq
  rw [h1, h1]
  have := h2 x
  have := h2 y
  simp only [h3]
  rw [if_pos ⟨by omega, by omega⟩]
theorem EqOK.inD (H : EqOK e n) (h : n ≤ 60) (x : α) (l : List α) : inD (e x) (l.map e) = some (decide (x ∈ l)) := by
  obtain ⟨q, h1, h2, h3⟩ := H
  unfold Mp.inD
  rw [h1, pys_mapG h1]
  have := h2 x
  have := depthAll_mapG h2 l
  dsimp only
  rw [if_pos ⟨by omega, by omega⟩, List.any_map]
  congr 1
  rw [Bool.eq_iff_iff, List.any_eq_true, decide_eq_true_eq]
  constructor
  · rintro ⟨z, hz, e'⟩
    have e' : PyData.eqv (q z) (q x) = true := e'
    rw [h3, decide_eq_true_eq] at e'
    exact e' ▸ hz
  · intro hx
    exact ⟨x, hx, by show PyData.eqv (q x) (q x) = true; rw [h3]; simp⟩
end
section
variable {G : Cfg} {pk : Bool} {ρ : Env} {α β γ δ ε ζ : Type} {e1 : α → D} {e2 : β → D} {e3 : γ → D} {e4 : δ → D} {e5 : ε → D} {g : ζ → D} {a b c d' e' : E} {ta : M α} {tb : M β} {tc : M γ} {td : M δ} {te : M ε}
theorem Sim.congr {α β : Type} {f : α → β} {m m' : M β} {t : M α} (h : Sim f m t) (e : m' = m) : Sim f m' t := e ▸ h
/-! leaves -/
theorem ev_slot {i : Nat} {x : α} (h : ρ[i]? = some (some (.d (e1 x)))) : Ev G pk (.slot i) ρ e1 (M.ok x) := by
  refine Sim.congr Sim.ok ?_
  funext rs; exact slot_ev h
theorem ev_slotO {i : Nat} {x : List α} (h : ρ[i]? = some (some (.ol (x.map e1)))) : Ev G true (.slot i) ρ (eL e1) (M.ok x) := by
  refine Sim.congr Sim.ok ?_
  funext rs; exact slot_evO h
theorem ev_slotD {i : Nat} {t : Bool} {x : List (α × β)} (h : ρ[i]? = some (some (.od t (x.map fun p => e1 p.1) (x.map fun p => e2 p.2)))) : Ev G true (.slot i) ρ (eD t e1 e2) (M.ok x) := by
  refine Sim.congr Sim.ok ?_
  funext rs
  unfold evalE
  rw [h]; rfl
theorem ev_int {i : Int} : Ev G pk (.kint i) ρ D.int (M.ok i) := Sim.ok
theorem ev_bl {i : Bool} : Ev G pk (.kbl i) ρ D.bl (M.ok i) := Sim.ok
theorem ev_str {i : Str} : Ev G pk (.kstr i) ρ D.str (M.ok i) := Sim.ok
theorem ev_non : Ev G pk .knon ρ (eO e1) (M.ok none) := Sim.ok' rfl
theorem ev_nonU : Ev G pk .knon ρ eU (M.ok ()) := Sim.ok' rfl
theorem ev_con {i : Nat} {x : α} (h : G.con i = some (e1 x)) : Ev G pk (.con i) ρ e1 (M.ok x) := by
  refine Sim.congr (m := M.ok (e1 x)) Sim.ok ?_
  show M.opt (G.con i) = _
  rw [h]; rfl
theorem ev_some (h : Ev G pk a ρ e1 ta) : Ev G pk a ρ (eO e1) (tSome ta) := by
  have := Sim.bind (g := eO e1) (k := fun x => M.ok x) (u := fun x => M.ok (some x)) h fun x => Sim.ok' rfl
  rw [bind_okr] at this; exact this
theorem ev_dyn (h : Ev G pk a ρ e1 ta) : Ev G pk a ρ id (tDyn e1 ta) := by
  have := Sim.bind (g := id) (k := fun x => M.ok x) (u := fun x => M.ok (e1 x)) h fun x => Sim.ok' rfl
  rw [bind_okr] at this; exact this
theorem ev_cast {t : M D} {dec : D → Option α} (hd : ∀ d x, dec d = some x → d = e1 x) (h : Ev G pk a ρ id t) : Ev G pk a ρ e1 (tB1 (oCast dec) t) := by
  have := Sim.bind (g := e1) (k := fun x => M.ok x) (u := oCast dec) h fun x rs => by
    unfold oCast
    cases e : dec x with
    | none => exact True.intro
    | some y => rw [show id x = e1 y from hd _ _ e]; rfl
  rw [bind_okr] at this; exact this
/-! operators -/
theorem ev_bin {op : Bop} {f : α → β → M ζ} (hf : ∀ x y, Sim g (M.opt (evalBin op (e1 x) (e2 y))) (f x y)) (ha : Ev G true a ρ e1 ta) (hb : Ev G true b ρ e2 tb) : Ev G pk (.bin op a b) ρ g (tB2 f ta tb) :=
  Sim.bind (k := fun x => M.bind (evalE G true b ρ) fun y => M.opt (evalBin op x y)) ha fun x => Sim.bind hb fun y => hf x y
section
variable {ta tb : M Int}
theorem ev_add (ha : Ev G true a ρ D.int ta) (hb : Ev G true b ρ D.int tb) : Ev G pk (.bin .add a b) ρ D.int (tB2 oAdd ta tb) := ev_bin (fun _ _ => Sim.ok) ha hb
theorem ev_sub (ha : Ev G true a ρ D.int ta) (hb : Ev G true b ρ D.int tb) : Ev G pk (.bin .sub a b) ρ D.int (tB2 oSub ta tb) := ev_bin (fun _ _ => Sim.ok) ha hb
theorem ev_mul (ha : Ev G true a ρ D.int ta) (hb : Ev G true b ρ D.int tb) : Ev G pk (.bin .mul a b) ρ D.int (tB2 oMul ta tb) := ev_bin (fun x y => by
  unfold oMul; show Sim D.int (M.opt (if (small x || small y) = true then some (D.int (x * y)) else none)) _
  split
  · exact Sim.ok
  · exact Sim.stuck) ha hb
theorem ev_div (ha : Ev G true a ρ D.int ta) (hb : Ev G true b ρ D.int tb) : Ev G pk (.bin .fdiv a b) ρ D.int (tB2 oDiv ta tb) := ev_bin (fun x y => by
  unfold oDiv; show Sim D.int (M.opt (if y ≠ 0 ∧ y.natAbs < 1073741824 then some (D.int (x.fdiv y)) else none)) _
  split
  · exact Sim.ok
  · exact Sim.stuck) ha hb
theorem ev_mod (ha : Ev G true a ρ D.int ta) (hb : Ev G true b ρ D.int tb) : Ev G pk (.bin .mod a b) ρ D.int (tB2 oMod ta tb) := ev_bin (fun x y => by
  unfold oMod; show Sim D.int (M.opt (if y ≠ 0 then some (D.int (x.fmod y)) else none)) _
  split
  · exact Sim.ok
  · exact Sim.stuck) ha hb
theorem ev_pow (ha : Ev G true a ρ D.int ta) (hb : Ev G true b ρ D.int tb) : Ev G pk (.bin .pow a b) ρ D.int (tB2 oPow ta tb) := ev_bin (fun x y => by
  unfold oPow; show Sim D.int (M.opt (if 0 ≤ y ∧ y ≤ 1000000 ∧ x.natAbs < 2 ^ 64 then some (D.int (x ^ y.toNat)) else none)) _
  split
  · exact Sim.ok
  · exact Sim.stuck) ha hb
end
section
variable {ta tb : M (List α)}
theorem ev_catT (ha : Ev G true a ρ (eT e1) ta) (hb : Ev G true b ρ (eT e1) tb) : Ev G pk (.bin .add a b) ρ (eT e1) (tB2 oCat ta tb) := ev_bin (fun x y => by
  unfold oCat; show Sim _ (M.opt (if (x.map e1).length + (y.map e1).length ≤ lim then some (D.tup (x.map e1 ++ y.map e1)) else none)) _
  rw [List.length_map, List.length_map, ← List.map_append]
  split
  · exact Sim.ok
  · exact Sim.stuck) ha hb
theorem ev_catL (ha : Ev G true a ρ (eL e1) ta) (hb : Ev G true b ρ (eL e1) tb) : Ev G pk (.bin .add a b) ρ (eL e1) (tB2 oCat ta tb) := ev_bin (fun x y => by
  unfold oCat; show Sim _ (M.opt (if (x.map e1).length + (y.map e1).length ≤ lim then some (D.lst (x.map e1 ++ y.map e1)) else none)) _
  rw [List.length_map, List.length_map, ← List.map_append]
  split
  · exact Sim.ok
  · exact Sim.stuck) ha hb
theorem ev_repT {tb : M Int} (ha : Ev G true a ρ (eT e1) ta) (hb : Ev G true b ρ D.int tb) : Ev G pk (.bin .mul a b) ρ (eT e1) (tB2 oRep ta tb) := ev_bin (fun x y => by
  unfold oRep; show Sim _ (M.opt (if 0 ≤ y ∧ y ≤ 1000 ∧ (x.map e1).length ≤ 1000 then some (D.tup (List.replicate y.toNat (x.map e1)).flatten) else none)) _
  rw [List.length_map, show (List.replicate y.toNat (x.map e1)).flatten = (List.replicate y.toNat x).flatten.map e1 by rw [List.map_flatten, List.map_replicate]]
  split
  · exact Sim.ok
  · exact Sim.stuck) ha hb
theorem ev_repL {tb : M Int} (ha : Ev G true a ρ (eL e1) ta) (hb : Ev G true b ρ D.int tb) : Ev G pk (.bin .mul a b) ρ (eL e1) (tB2 oRep ta tb) := ev_bin (fun x y => by
  unfold oRep; show Sim _ (M.opt (if 0 ≤ y ∧ y ≤ 1000 ∧ (x.map e1).length ≤ 1000 then some (D.lst (List.replicate y.toNat (x.map e1)).flatten) else none)) _
  rw [List.length_map, show (List.replicate y.toNat (x.map e1)).flatten = (List.replicate y.toNat x).flatten.map e1 by rw [List.map_flatten, List.map_replicate]]
  split
  · exact Sim.ok
  · exact Sim.stuck) ha hb
end
theorem ev_catS {ta tb : M Str} (ha : Ev G true a ρ D.str ta) (hb : Ev G true b ρ D.str tb) : Ev G pk (.bin .add a b) ρ D.str (tB2 oSCat ta tb) := ev_bin (fun x y => by
  unfold oSCat; show Sim _ (M.opt (if x.length + y.length ≤ lim then some (D.str (x ++ y)) else none)) _
  split
  · exact Sim.ok
  · exact Sim.stuck) ha hb
theorem ev_neg {ta : M Int} (ha : Ev G true a ρ D.int ta) : Ev G pk (.neg a) ρ D.int (tB1 oNeg ta) := Sim.bind ha fun _ => Sim.ok
theorem ev_not {ta : M Bool} (ha : Ev G true a ρ D.bl ta) : Ev G pk (.not a) ρ D.bl (tB1 oNot ta) := Sim.bind ha fun _ => Sim.ok
theorem sim_bl {m : M Bool} {t : M Bool} (h : Sim id m t) : Sim D.bl (M.bind m fun z => M.ok (D.bl z)) t := by
  have := Sim.bind (g := D.bl) (k := fun z => M.ok (D.bl z)) (u := fun z => M.ok z) h fun z => Sim.ok
  rw [bind_okr] at this; exact this
theorem ev_cmp {op : Cop} {f : α → β → M Bool} (hf : ∀ x y, Sim id (M.opt (evalCmp op (e1 x) (e2 y))) (f x y)) (ha : Ev G true a ρ e1 ta) (hb : Ev G true b ρ e2 tb) : Ev G pk (.cmp op a b) ρ D.bl (tB2 f ta tb) :=
  Sim.bind (k := fun x => M.bind (evalE G true b ρ) fun y => M.bind (M.opt (evalCmp op x y)) fun z => M.ok (D.bl z)) ha fun x => Sim.bind hb fun y => sim_bl (hf x y)
def tChain {α β γ : Type} (f : α → β → M Bool) (f' : β → γ → M Bool) (a : M α) (b : M β) (c : M γ) : M Bool := M.bind a fun x => M.bind b fun y => M.bind (f x y) fun k => if k then M.bind c fun z => f' y z else M.ok false
theorem ev_chain {op op' : Cop} {f : α → β → M Bool} {f' : β → γ → M Bool} (hf : ∀ x y, Sim id (M.opt (evalCmp op (e1 x) (e2 y))) (f x y)) (hf' : ∀ x y, Sim id (M.opt (evalCmp op' (e2 x) (e3 y))) (f' x y))
    (ha : Ev G true a ρ e1 ta) (hb : Ev G true b ρ e2 tb) (hc : Ev G true c ρ e3 tc) : Ev G pk (.chain op op' a b c) ρ D.bl (tChain f f' ta tb tc) :=
  Sim.bind (k := fun x => M.bind (evalE G true b ρ) fun y => M.bind (M.opt (evalCmp op x y)) fun k => if k then M.bind (evalE G true c ρ) fun z => (M.bind (M.opt (evalCmp op' y z)) fun z => M.ok (D.bl z)) else M.ok (D.bl false)) ha fun x => Sim.bind hb fun y => Sim.bind (hf x y) fun k => by
    cases k
    · exact Sim.ok
    · exact Sim.bind hc fun z => sim_bl (hf' y z)
/-! comparisons by values -/
theorem opt_ok {α β : Type} {f : α → β} {o : Option β} {a : α} (h : o = some (f a)) : Sim f (M.opt o) (M.ok a) := by rw [h]; exact Sim.ok
theorem c_lt (x y : Int) : Sim id (M.opt (evalCmp .lt (.int x) (.int y))) (oLt x y) := opt_ok (cmp_lt_int x y)
theorem c_le (x y : Int) : Sim id (M.opt (evalCmp .le (.int x) (.int y))) (oLe x y) := Sim.ok
theorem c_gt (x y : Int) : Sim id (M.opt (evalCmp .gt (.int x) (.int y))) (oGt x y) := Sim.ok
theorem c_ge (x y : Int) : Sim id (M.opt (evalCmp .ge (.int x) (.int y))) (oGe x y) := Sim.ok
theorem c_eq [DecidableEq α] {n : Nat} (H : EqOK e1 n) (h : n ≤ 60) (x y : α) : Sim id (M.opt (evalCmp .eq (e1 x) (e1 y))) (oEq x y) := opt_ok (H.eq h x y)
theorem c_ne [DecidableEq α] {n : Nat} (H : EqOK e1 n) (h : n ≤ 60) (x y : α) : Sim id (M.opt (evalCmp .ne (e1 x) (e1 y))) (oNe x y) := opt_ok (by show (D.eq _ _).map _ = _; rw [H.eq h]; rfl)
theorem c_inL [DecidableEq α] {n : Nat} (H : EqOK e1 n) (h : n ≤ 60) (x : α) (l : List α) : Sim id (M.opt (evalCmp .in_ (e1 x) (eL e1 l))) (oIn x l) := opt_ok (H.inD h x l)
theorem c_inT [DecidableEq α] {n : Nat} (H : EqOK e1 n) (h : n ≤ 60) (x : α) (l : List α) : Sim id (M.opt (evalCmp .in_ (e1 x) (eT e1 l))) (oIn x l) := opt_ok (H.inD h x l)
theorem c_inK [DecidableEq α] {n : Nat} (H : EqOK e1 n) (h : n ≤ 60) (x : α) (l : List α) : Sim id (M.opt (evalCmp .in_ (e1 x) (eK e1 l))) (oIn x l) := opt_ok (H.inD h x l)
theorem c_ninL [DecidableEq α] {n : Nat} (H : EqOK e1 n) (h : n ≤ 60) (x : α) (l : List α) : Sim id (M.opt (evalCmp .nin (e1 x) (eL e1 l))) (oNin x l) := opt_ok (by show (Mp.inD _ _).map _ = _; rw [H.inD h]; rfl)
theorem c_ninT [DecidableEq α] {n : Nat} (H : EqOK e1 n) (h : n ≤ 60) (x : α) (l : List α) : Sim id (M.opt (evalCmp .nin (e1 x) (eT e1 l))) (oNin x l) := opt_ok (by show (Mp.inD _ _).map _ = _; rw [H.inD h]; rfl)
theorem c_ninK [DecidableEq α] {n : Nat} (H : EqOK e1 n) (h : n ≤ 60) (x : α) (l : List α) : Sim id (M.opt (evalCmp .nin (e1 x) (eK e1 l))) (oNin x l) := opt_ok (by show (Mp.inD _ _).map _ = _; rw [H.inD h]; rfl)
/-! is None, of a thing that may be None -/
def oIsN {α : Type} (x : Option α) (_ : Unit) : M Bool := M.ok x.isNone
def oIsnN {α : Type} (x : Option α) (_ : Unit) : M Bool := M.ok (!x.isNone)
theorem c_isN (hn : ∀ x, (e1 x).isNon = false) (x : Option α) (y : Unit) : Sim id (M.opt (evalCmp .is (eO e1 x) (eU y))) (oIsN x y) := opt_ok (by
  cases x with
  | none => rfl
  | some a => show some (e1 a).isNon = _; rw [hn]; rfl)
theorem c_isnN (hn : ∀ x, (e1 x).isNon = false) (x : Option α) (y : Unit) : Sim id (M.opt (evalCmp .isn (eO e1 x) (eU y))) (oIsnN x y) := opt_ok (by
  cases x with
  | none => rfl
  | some a => show some (!(e1 a).isNon) = _; rw [hn]; rfl)
/-! and, or, if-else -/
theorem sim_if {α β : Type} {f : α → β} {z : Bool} {m m' : M β} {t t' : M α} (h1 : Sim f m t) (h2 : Sim f m' t') : Sim f (if z then m else m') (if z then t else t') := by cases z <;> assumption
theorem ev_and {ta tb : M Bool} (ha : Ev G true a ρ D.bl ta) (hb : Ev G true b ρ D.bl tb) : Ev G pk (.and a b) ρ D.bl (tAnd ta tb) :=
  Sim.bind (k := fun x => (match x with
      | D.bl true => M.bind (evalE G true b ρ) fun y => (match y with | D.bl k => M.ok (D.bl k) | _ => M.stuck)
      | D.bl false => M.ok (D.bl false)
      | _ => M.stuck)) ha fun x => by
    cases x
    · exact Sim.ok
    · have := Sim.bind (g := D.bl) (k := fun y => (match y with | D.bl k => M.ok (D.bl k) | _ => M.stuck)) (u := fun z => M.ok z) hb fun z => Sim.ok
      rw [bind_okr] at this
      exact this
theorem ev_or {ta tb : M Bool} (ha : Ev G true a ρ D.bl ta) (hb : Ev G true b ρ D.bl tb) : Ev G pk (.or a b) ρ D.bl (tOr ta tb) :=
  Sim.bind (k := fun x => (match x with
      | D.bl false => M.bind (evalE G true b ρ) fun y => (match y with | D.bl k => M.ok (D.bl k) | _ => M.stuck)
      | D.bl true => M.ok (D.bl true)
      | _ => M.stuck)) ha fun x => by
    cases x
    · have := Sim.bind (g := D.bl) (k := fun y => (match y with | D.bl k => M.ok (D.bl k) | _ => M.stuck)) (u := fun z => M.ok z) hb fun z => Sim.ok
      rw [bind_okr] at this
      exact this
    · exact Sim.ok
theorem ev_ife {tc : M Bool} {ta tb : M α} (hc : Ev G true c ρ D.bl tc) (ha : Ev G false a ρ e1 ta) (hb : Ev G false b ρ e1 tb) : Ev G pk (.ife c a b) ρ e1 (tIf tc ta tb) :=
  Sim.bind (k := fun x => (match x with | D.bl true => evalE G false a ρ | D.bl false => evalE G false b ρ | _ => M.stuck)) hc fun z => by
    cases z
    · exact hb
    · exact ha
/-! subscripts -/
theorem atI_mapG {α β : Type} (f : α → β) (l : List α) (i : Int) : L2.atI (l.map f) i = (L2.atI l i).map f := by
  unfold L2.atI
  rw [List.length_map]
  cases L2.ixN l.length i with
  | none => rfl
  | some j => simp
theorem sim_ix (l : List α) (i : Int) : Sim e1 (M.opt (L2.atI (l.map e1) i)) (oIx l i) := by
  rw [atI_mapG]
  unfold oIx
  cases L2.atI l i with
  | none => exact Sim.stuck
  | some j => exact Sim.ok
section
variable {to : M (List α)} {ti : M Int} {o i : E}
theorem ev_ixT (ho : Ev G true o ρ (eT e1) to) (hi : Ev G true i ρ D.int ti) : Ev G pk (.ix o i) ρ e1 (tB2 oIx to ti) := Sim.bind (k := fun x => M.bind (evalE G true i ρ) fun y => fun rs => M.opt (ixM rs x y) rs) ho fun x => Sim.bind hi fun y => sim_ix x y
theorem ev_ixL (ho : Ev G true o ρ (eL e1) to) (hi : Ev G true i ρ D.int ti) : Ev G pk (.ix o i) ρ e1 (tB2 oIx to ti) := Sim.bind (k := fun x => M.bind (evalE G true i ρ) fun y => fun rs => M.opt (ixM rs x y) rs) ho fun x => Sim.bind hi fun y => sim_ix x y
theorem ev_ixK (ho : Ev G true o ρ (eK e1) to) (hi : Ev G true i ρ D.int ti) : Ev G pk (.ix o i) ρ e1 (tB2 oIx to ti) := Sim.bind (k := fun x => M.bind (evalE G true i ρ) fun y => fun rs => M.opt (ixM rs x y) rs) ho fun x => Sim.bind hi fun y => sim_ix x y
theorem ev_ixC (ho : Ev G true o ρ (eC e1) to) (hi : Ev G true i ρ D.int ti) : Ev G pk (.ix o i) ρ e1 (tB2 oIx to ti) := Sim.bind (k := fun x => M.bind (evalE G true i ρ) fun y => fun rs => M.opt (ixM rs x y) rs) ho fun x => Sim.bind hi fun y => sim_ix x y
end
/-- an item of a tuple of a fixed form -/
theorem ev_pr {k : Int} {f : α → β} {o : E} {to : M α} (hf : ∀ x rs, ixM rs (e1 x) (.int k) = some (e2 (f x))) (ho : Ev G true o ρ e1 to) : Ev G pk (.ix o (.kint k)) ρ e2 (tB1 (fun x => M.ok (f x)) to) :=
  Sim.bind (k := fun x => M.bind (evalE G true (.kint k) ρ) fun y => fun rs => M.opt (ixM rs x y) rs) ho fun x rs => by
    show M.opt (ixM rs (e1 x) (.int k)) rs = _
    rw [hf]; rfl
@[irreducible] def oSIx (s : Str) (k : Int) : M Str := if s.length ≤ lim then M.opt ((L2.atI s.cps.toList k).map fun c => (⟨#[c]⟩ : Str)) else M.stuck
theorem ev_ixS {to : M Str} {ti : M Int} {o i : E} (ho : Ev G true o ρ D.str to) (hi : Ev G true i ρ D.int ti) : Ev G pk (.ix o i) ρ D.str (tB2 oSIx to ti) := Sim.bind (k := fun x => M.bind (evalE G true i ρ) fun y => fun rs => M.opt (ixM rs x y) rs) ho fun x => Sim.bind hi fun y => by
  unfold oSIx
  show Sim D.str (M.opt (if x.length ≤ lim then (L2.atI x.cps.toList y).map fun c => D.str ⟨#[c]⟩ else none)) _
  split
  · cases L2.atI x.cps.toList y with
    | none => exact Sim.stuck
    | some j => exact Sim.ok
  · exact Sim.stuck
theorem ev_ixR {ti : M Int} {j : Nat} {i : E} (hj : ρ[j]? = some (some (.d .st))) (hi : Ev G true i ρ D.int ti) : Ev G pk (.ix (.slot j) i) ρ D.int (M.bind ti rGet) := by
  have e : evalE G pk (.ix (.slot j) i) ρ = M.bind (evalE G true i ρ) fun y => fun rs => M.opt (ixM rs .st y) rs := by
    funext rs
    exact bind_ok' (slot_ev hj)
  rw [Ev, e]
  refine Sim.bind hi fun y rs => ?_
  unfold rGet
  cases rs with
  | none => exact True.intro
  | some l =>
    dsimp only
    cases h : L2.atI l y with
    | none => exact True.intro
    | some d => cases d <;> first | exact True.intro | (show M.opt (L2.atI l y) (some l) = _; rw [h]; rfl)
theorem ev_rpop {ti : M Int} {j : Nat} {i : E} (hj : ρ[j]? = some (some (.d .st))) (hi : Ev G true i ρ D.int ti) : Ev G pk (.rpop (.slot j) i) ρ D.int (M.bind (fun rs => match rs with | some _ => .ok () rs | none => .stuck) fun _ => M.bind ti rPop) := fun rs => by
  have e : ∀ l, evalE G pk (.rpop (.slot j) i) ρ (some l) = M.bind (evalE G true i ρ) (fun y => (match y with
      | .int k => (fun rs => match rs with
        | some l => (match seqIndex? k l.length with
          | some j => (match l[j]? with | some v => if small62 k then .ok v (some (l.eraseIdx j)) else .stuck | none => .stuck)
          | none => .stuck)
        | none => .stuck)
      | _ => M.stuck : M D)) (some l) := fun l => by
    refine (bind_ok' (slot_ev hj)).trans ?_
    refine Eq.trans (bind_ok' (m := isReg D.st) (a := ()) (rs1 := some l) rfl) ?_
    congr 1
    funext y
    cases y <;> rfl
  cases rs with
  | none => exact True.intro
  | some l =>
    rw [e]
    refine Sim.bind (f := D.int) (g := D.int) (u := rPop) hi (fun k rs => ?_) (some l)
    unfold rPop
    cases rs with
    | none => exact True.intro
    | some l =>
      dsimp only
      cases seqIndex? k l.length with
      | none => exact True.intro
      | some m =>
        dsimp only
        cases l[m]? with
        | none => exact True.intro
        | some d =>
          cases d <;> first | exact True.intro | skip
          dsimp only
          by_cases hs : small62 k = true
          · rw [if_pos hs, if_pos hs]
          · rw [if_neg hs, if_neg hs]; exact True.intro
/-! slices -/
abbrev EvB (G : Cfg) (lo : E) (ρ : Env) (t : M (Option Int)) : Prop := Sim id (M.bind (evalE G true lo ρ) fun l => M.opt (boundD (isAbs lo) l)) t
theorem evb_abs : EvB G .absent ρ (M.ok none) := Sim.ok' rfl
theorem evb_some {ti : M Int} {i : E} (hn : isAbs i = false) (hi : Ev G true i ρ D.int ti) : EvB G i ρ (tSome ti) := Sim.bind hi fun x => by rw [hn]; exact Sim.ok' rfl
def tSl {α β : Type} (f : α → Option Int → Option Int → M β) (a : M α) (l h : M (Option Int)) : M β := M.bind a fun x => M.bind l fun l => M.bind h fun h => f x l h
theorem ev_sl {lo hi : E} {tl th : M (Option Int)} {f : α → Option Int → Option Int → M β} (hf : ∀ x l h, Sim e2 (M.opt (evalSl (e1 x) l h)) (f x l h)) (ha : Ev G true a ρ e1 ta) (hl : EvB G lo ρ tl) (hh : EvB G hi ρ th) : Ev G pk (.sl a lo hi) ρ e2 (tSl f ta tl th) := by
  have e : evalE G pk (.sl a lo hi) ρ = M.bind (evalE G true a ρ) fun x => M.bind (M.bind (evalE G true lo ρ) fun l => M.opt (boundD (isAbs lo) l)) fun l' => M.bind (M.bind (evalE G true hi ρ) fun l => M.opt (boundD (isAbs hi) l)) fun h' => M.opt (evalSl x l' h') := by
    simp only [bind_assoc]; rfl
  rw [Ev, e]
  exact Sim.bind ha fun x => Sim.bind hl fun l => Sim.bind hh fun h => hf x l h
theorem cutD_map (xs : List α) (lo hi : Option Int) : cutD (xs.map e1) lo hi = (cutL xs lo hi).map e1 := by
  unfold cutD cutL
  rw [List.length_map, ← List.map_drop, ← List.map_take]
def oCut {α : Type} (x : List α) (l h : Option Int) : M (List α) := M.ok (cutL x l h)
theorem f_slT (x : List α) (l h : Option Int) : Sim (eT e1) (M.opt (evalSl (eT e1 x) l h)) (oCut x l h) := opt_ok (by show some (D.tup (cutD _ _ _)) = _; rw [cutD_map])
theorem f_slL (x : List α) (l h : Option Int) : Sim (eL e1) (M.opt (evalSl (eL e1 x) l h)) (oCut x l h) := opt_ok (by show some (D.lst (cutD _ _ _)) = _; rw [cutD_map])
theorem f_slC (x : List α) (l h : Option Int) : Sim (eL e1) (M.opt (evalSl (eC e1 x) l h)) (oCut x l h) := opt_ok (by show some (D.lst (cutD _ _ _)) = _; rw [cutD_map])
def oRev {α : Type} (x : List α) : M (List α) := M.ok x.reverse
theorem ev_slrT {to : M (List α)} {o : E} (ho : Ev G true o ρ (eT e1) to) : Ev G pk (.slr o) ρ (eT e1) (tB1 oRev to) := Sim.bind (k := fun x => (match x with | D.tup xs => M.ok (D.tup xs.reverse) | D.lst xs => M.ok (D.lst xs.reverse) | _ => M.stuck)) ho fun x => Sim.ok' (by show D.tup (x.map e1).reverse = D.tup (x.reverse.map e1); rw [List.map_reverse])
theorem ev_slrL {to : M (List α)} {o : E} (ho : Ev G true o ρ (eL e1) to) : Ev G pk (.slr o) ρ (eL e1) (tB1 oRev to) := Sim.bind (k := fun x => (match x with | D.tup xs => M.ok (D.tup xs.reverse) | D.lst xs => M.ok (D.lst xs.reverse) | _ => M.stuck)) ho fun x => Sim.ok' (by show D.lst (x.map e1).reverse = D.lst (x.reverse.map e1); rw [List.map_reverse])
/-! calls -/
def tB3 {α β γ ζ : Type} (f : α → β → γ → M ζ) (a : M α) (b : M β) (c : M γ) : M ζ := M.bind a fun x => M.bind b fun y => M.bind c fun z => f x y z
def tB4 {α β γ δ ζ : Type} (f : α → β → γ → δ → M ζ) (a : M α) (b : M β) (c : M γ) (d : M δ) : M ζ := M.bind a fun x => M.bind b fun y => M.bind c fun z => M.bind d fun w => f x y z w
def tB5 {α β γ δ ε ζ : Type} (f : α → β → γ → δ → ε → M ζ) (a : M α) (b : M β) (c : M γ) (d : M δ) (e : M ε) : M ζ := M.bind a fun x => M.bind b fun y => M.bind c fun z => M.bind d fun w => M.bind e fun v => f x y z w v
theorem es0 (pk : Bool) : evalEs G pk .nil ρ = M.ok [] := rfl
theorem es1 (pk : Bool) (a : E) (r : Es) : evalEs G pk (.cons a r) ρ = M.bind (evalE G pk a ρ) fun x => M.bind (evalEs G pk r ρ) fun xs => M.ok (x :: xs) := rfl
theorem ev_call1 {f : Nat} {F : α → M ζ} (hc : ∀ x, Sim g (G.call f [e1 x]) (F x)) (ha : Ev G false a ρ e1 ta) : Ev G pk (.call f (.cons a .nil)) ρ g (tB1 F ta) := by
  refine Sim.congr (m := M.bind (evalE G false a ρ) fun x => G.call f [x]) (Sim.bind ha fun x => hc x) ?_
  show M.bind (evalEs G false _ ρ) _ = _
  simp only [es0, es1, bind_assoc, bind_okl]
theorem ev_call2 {f : Nat} {F : α → β → M ζ} (hc : ∀ x y, Sim g (G.call f [e1 x, e2 y]) (F x y)) (ha : Ev G false a ρ e1 ta) (hb : Ev G false b ρ e2 tb) : Ev G pk (.call f (.cons a (.cons b .nil))) ρ g (tB2 F ta tb) := by
  refine Sim.congr (m := M.bind (evalE G false a ρ) fun x => M.bind (evalE G false b ρ) fun y => G.call f [x, y]) (Sim.bind ha fun x => Sim.bind hb fun y => hc x y) ?_
  show M.bind (evalEs G false _ ρ) _ = _
  simp only [es0, es1, bind_assoc, bind_okl]
theorem ev_call3 {f : Nat} {F : α → β → γ → M ζ} (hc' : ∀ x y z, Sim g (G.call f [e1 x, e2 y, e3 z]) (F x y z)) (ha : Ev G false a ρ e1 ta) (hb : Ev G false b ρ e2 tb) (hc : Ev G false c ρ e3 tc) : Ev G pk (.call f (.cons a (.cons b (.cons c .nil)))) ρ g (tB3 F ta tb tc) := by
  refine Sim.congr (m := M.bind (evalE G false a ρ) fun x => M.bind (evalE G false b ρ) fun y => M.bind (evalE G false c ρ) fun z => G.call f [x, y, z]) (Sim.bind ha fun x => Sim.bind hb fun y => Sim.bind hc fun z => hc' x y z) ?_
  show M.bind (evalEs G false _ ρ) _ = _
  simp only [es0, es1, bind_assoc, bind_okl]
theorem ev_call4 {f : Nat} {F : α → β → γ → δ → M ζ} (hc' : ∀ x y z w, Sim g (G.call f [e1 x, e2 y, e3 z, e4 w]) (F x y z w)) (ha : Ev G false a ρ e1 ta) (hb : Ev G false b ρ e2 tb) (hc : Ev G false c ρ e3 tc) (hd : Ev G false d' ρ e4 td) : Ev G pk (.call f (.cons a (.cons b (.cons c (.cons d' .nil))))) ρ g (tB4 F ta tb tc td) := by
  refine Sim.congr (m := M.bind (evalE G false a ρ) fun x => M.bind (evalE G false b ρ) fun y => M.bind (evalE G false c ρ) fun z => M.bind (evalE G false d' ρ) fun w => G.call f [x, y, z, w]) (Sim.bind ha fun x => Sim.bind hb fun y => Sim.bind hc fun z => Sim.bind hd fun w => hc' x y z w) ?_
  show M.bind (evalEs G false _ ρ) _ = _
  simp only [es0, es1, bind_assoc, bind_okl]
theorem ev_call5 {f : Nat} {F : α → β → γ → δ → ε → M ζ} (hc' : ∀ x y z w v, Sim g (G.call f [e1 x, e2 y, e3 z, e4 w, e5 v]) (F x y z w v)) (ha : Ev G false a ρ e1 ta) (hb : Ev G false b ρ e2 tb) (hc : Ev G false c ρ e3 tc) (hd : Ev G false d' ρ e4 td) (he : Ev G false e' ρ e5 te) :
    Ev G pk (.call f (.cons a (.cons b (.cons c (.cons d' (.cons e' .nil)))))) ρ g (tB5 F ta tb tc td te) := by
  refine Sim.congr (m := M.bind (evalE G false a ρ) fun x => M.bind (evalE G false b ρ) fun y => M.bind (evalE G false c ρ) fun z => M.bind (evalE G false d' ρ) fun w => M.bind (evalE G false e' ρ) fun v => G.call f [x, y, z, w, v]) (Sim.bind ha fun x => Sim.bind hb fun y => Sim.bind hc fun z => Sim.bind hd fun w => Sim.bind he fun v => hc' x y z w v) ?_
  show M.bind (evalEs G false _ ρ) _ = _
  simp only [es0, es1, bind_assoc, bind_okl]
/-! displays -/
abbrev EvS (G : Cfg) (pk : Bool) (es : Es) (ρ : Env) {α : Type} (enc : α → D) (t : M (List α)) : Prop := Sim (List.map enc) (evalEs G pk es ρ) t
theorem evs_nil : EvS G pk .nil ρ e1 (tListOf []) := Sim.ok' rfl
theorem evs_cons {r : Es} {tr : List (M α)} (ha : Ev G pk a ρ e1 ta) (hr : EvS G pk r ρ e1 (tListOf tr)) : EvS G pk (.cons a r) ρ e1 (tListOf (ta :: tr)) := Sim.bind ha fun x => Sim.bind hr fun xs => Sim.ok' rfl
def tDisp {α : Type} (l : List (M α)) : M (List α) := M.bind (tListOf l) oCk
theorem ev_tupH {es : Es} {ts : List (M α)} (h : EvS G false es ρ e1 (tListOf ts)) : Ev G pk (.tup es) ρ (eT e1) (tDisp ts) := Sim.bind h fun xs => by
  unfold oCk
  rw [List.length_map]
  split
  · exact Sim.ok
  · exact Sim.stuck
theorem ev_lst {es : Es} {ts : List (M α)} (h : EvS G false es ρ e1 (tListOf ts)) : Ev G pk (.lst es) ρ (eL e1) (tDisp ts) := Sim.bind h fun xs => by
  unfold oCk
  rw [List.length_map]
  split
  · exact Sim.ok
  · exact Sim.stuck
theorem ev_tup2 (ha : Ev G false a ρ e1 ta) (hb : Ev G false b ρ e2 tb) : Ev G pk (.tup (.cons a (.cons b .nil))) ρ (eP2 e1 e2) (tB2 (fun x y => M.ok (x, y)) ta tb) := by
  refine Sim.congr (m := M.bind (evalE G false a ρ) fun x => M.bind (evalE G false b ρ) fun y => M.ok (D.tup [x, y])) (Sim.bind ha fun x => Sim.bind hb fun y => Sim.ok' rfl) ?_
  show M.bind (evalEs G false _ ρ) _ = _
  simp only [es0, es1, bind_assoc, bind_okl]
  rfl
theorem ev_tup3 (ha : Ev G false a ρ e1 ta) (hb : Ev G false b ρ e2 tb) (hc : Ev G false c ρ e3 tc) : Ev G pk (.tup (.cons a (.cons b (.cons c .nil)))) ρ (eP3 e1 e2 e3) (tB3 (fun x y z => M.ok (x, y, z)) ta tb tc) := by
  refine Sim.congr (m := M.bind (evalE G false a ρ) fun x => M.bind (evalE G false b ρ) fun y => M.bind (evalE G false c ρ) fun z => M.ok (D.tup [x, y, z])) (Sim.bind ha fun x => Sim.bind hb fun y => Sim.bind hc fun z => Sim.ok' rfl) ?_
  show M.bind (evalEs G false _ ρ) _ = _
  simp only [es0, es1, bind_assoc, bind_okl]
  rfl
/-! built-in functions -/
theorem ev_bi1 {bi : Bi} {f : α → M ζ} (hf : ∀ x, Sim g (fun rs => M.opt (biM rs bi [e1 x]) rs) (f x)) (ha : Ev G true a ρ e1 ta) : Ev G pk (.bi bi (.cons a .nil)) ρ g (tB1 f ta) := by
  refine Sim.congr (m := M.bind (evalE G true a ρ) fun x => fun rs => M.opt (biM rs bi [x]) rs) (Sim.bind ha fun x => hf x) ?_
  show M.bind (evalEs G true _ ρ) _ = _
  simp only [es0, es1, bind_assoc, bind_okl]
  exact bind_assoc _ _ _
theorem ev_bi2 {bi : Bi} {f : α → β → M ζ} (hf : ∀ x y, Sim g (fun rs => M.opt (biM rs bi [e1 x, e2 y]) rs) (f x y)) (ha : Ev G true a ρ e1 ta) (hb : Ev G true b ρ e2 tb) : Ev G pk (.bi bi (.cons a (.cons b .nil))) ρ g (tB2 f ta tb) := by
  refine Sim.congr (m := M.bind (evalE G true a ρ) fun x => M.bind (evalE G true b ρ) fun y => fun rs => M.opt (biM rs bi [x, y]) rs) (Sim.bind ha fun x => Sim.bind hb fun y => hf x y) ?_
  show M.bind (evalEs G true _ ρ) _ = _
  simp only [es0, es1, bind_assoc, bind_okl]
  exact (bind_assoc _ _ _).trans (congrArg (M.bind (evalE G true a ρ)) (funext fun x => bind_assoc _ _ _))
theorem f_lenT (x : List α) : Sim D.int (fun rs => M.opt (biM rs .len [eT e1 x]) rs) (oLen x) := opt_ok (by show some (D.int ((x.map e1).length : Nat)) = _; rw [List.length_map])
theorem f_lenL (x : List α) : Sim D.int (fun rs => M.opt (biM rs .len [eL e1 x]) rs) (oLen x) := opt_ok (by show some (D.int ((x.map e1).length : Nat)) = _; rw [List.length_map])
theorem f_lenK (x : List α) : Sim D.int (fun rs => M.opt (biM rs .len [eK e1 x]) rs) (oLen x) := opt_ok (by show some (D.int ((x.map e1).length : Nat)) = _; rw [List.length_map])
theorem f_lenC (x : List α) : Sim D.int (fun rs => M.opt (biM rs .len [eC e1 x]) rs) (oLen x) := opt_ok (by show some (D.int ((x.map e1).length : Nat)) = _; rw [List.length_map])
theorem f_lenD {t : Bool} (x : List (α × β)) : Sim D.int (fun rs => M.opt (biM rs .len [eD t e1 e2 x]) rs) (oLen x) := opt_ok (by show some (D.int ((x.map _).length : Nat)) = _; rw [List.length_map])
@[irreducible] def oLenS (s : Str) : M Int := if s.length ≤ lim then M.ok (s.length : Int) else M.stuck
theorem f_lenS (x : Str) : Sim D.int (fun rs => M.opt (biM rs .len [D.str x]) rs) (oLenS x) := by
  unfold oLenS
  show Sim D.int (M.opt (if x.length ≤ lim then some (D.int x.length) else none)) _
  split
  · exact Sim.ok
  · exact Sim.stuck
theorem f_lenR {j : Nat} (hj : ρ[j]? = some (some (.d .st))) : Ev G pk (.bi .len (.cons (.slot j) .nil)) ρ D.int rLen := fun rs => by
  cases rs with
  | none => exact True.intro
  | some l =>
    refine Eq.trans (bind_ok' (a := [D.st]) (rs1 := some l) ?_) rfl
    refine Eq.trans (bind_ok' (slot_ev hj)) rfl
theorem f_abs (x : Int) : Sim D.int (fun rs => M.opt (biM rs .abs [D.int x]) rs) (oAbs x) := Sim.ok
theorem f_intI (x : Int) : Sim D.int (fun rs => M.opt (biM rs .int [D.int x]) rs) (M.ok x) := Sim.ok
theorem f_intB (x : Bool) : Sim D.int (fun rs => M.opt (biM rs .int [D.bl x]) rs) (oB2i x) := Sim.ok
@[irreducible] def oStr (i : Int) : M Str := if i.natAbs.log2 < 1920 then M.ok ((toString i : String) : Str) else M.stuck
theorem f_str (x : Int) : Sim D.str (fun rs => M.opt (biM rs .str [D.int x]) rs) (oStr x) := by
  unfold oStr
  show Sim D.str (M.opt (if x.natAbs.log2 < 1920 then some (D.str (toString x : String)) else none)) _
  split
  · exact Sim.ok
  · exact Sim.stuck
theorem f_sum (x : List Int) : Sim D.int (fun rs => M.opt (biM rs .sum [eL D.int x]) rs) (oSum x) := opt_ok (by show (unI (dI x)).map _ = _; rw [unI_dI]; rfl)
theorem f_tupL (x : List α) : Sim (eT e1) (fun rs => M.opt (biM rs .tuple [eL e1 x]) rs) (M.ok x) := Sim.ok
theorem f_tupT (x : List α) : Sim (eT e1) (fun rs => M.opt (biM rs .tuple [eT e1 x]) rs) (M.ok x) := Sim.ok
theorem f_lstL (x : List α) : Sim (eL e1) (fun rs => M.opt (biM rs .list [eL e1 x]) rs) (M.ok x) := Sim.ok
theorem f_lstT (x : List α) : Sim (eL e1) (fun rs => M.opt (biM rs .list [eT e1 x]) rs) (M.ok x) := Sim.ok
def oKeys {α β : Type} (l : List (α × β)) : M (List α) := M.ok (l.map (·.1))
theorem f_lstD {t : Bool} (x : List (α × β)) : Sim (eL e1) (fun rs => M.opt (biM rs .list [eD t e1 e2 x]) rs) (oKeys x) := opt_ok (by show some (D.lst _) = some (D.lst _); rw [List.map_map]; rfl)
theorem f_max2 (x y : Int) : Sim D.int (fun rs => M.opt (biM rs .max [D.int x, D.int y]) rs) (oMax2 x y) := Sim.ok
theorem f_min2 (x y : Int) : Sim D.int (fun rs => M.opt (biM rs .min [D.int x, D.int y]) rs) (oMin2 x y) := Sim.ok
theorem f_maxL (x : List Int) : Sim D.int (fun rs => M.opt (biM rs .max [eL D.int x]) rs) (oMaxL x) := by
  unfold oMaxL
  cases x with
  | nil => exact Sim.stuck
  | cons a r => exact opt_ok (by show (match unI (dI (a :: r)) with | some (x :: r) => some (D.int (maxI x r)) | _ => none) = _; rw [unI_dI])
theorem f_minL (x : List Int) : Sim D.int (fun rs => M.opt (biM rs .min [eL D.int x]) rs) (oMinL x) := by
  unfold oMinL
  cases x with
  | nil => exact Sim.stuck
  | cons a r => exact opt_ok (by show (match unI (dI (a :: r)) with | some (x :: r) => some (D.int (minI x r)) | _ => none) = _; rw [unI_dI])
theorem unB_map : ∀ l : List Bool, unB (l.map D.bl) = some l
  | [] => rfl
  | a :: l => by show (match unB (l.map D.bl) with | some l => some (a :: l) | none => none) = _; rw [unB_map l]
theorem f_all (x : List Bool) : Sim D.bl (fun rs => M.opt (biM rs .all [eL D.bl x]) rs) (oAll x) := opt_ok (by show (unB (x.map D.bl)).map _ = _; rw [unB_map]; rfl)
theorem f_any (x : List Bool) : Sim D.bl (fun rs => M.opt (biM rs .any [eL D.bl x]) rs) (oAny x) := opt_ok (by show (unB (x.map D.bl)).map _ = _; rw [unB_map]; rfl)
@[irreducible] def oOrd (s : Str) : M Int := if s.length = 1 then M.ok ((s.cps.getD 0 0 : Nat) : Int) else M.stuck
theorem f_ord (x : Str) : Sim D.int (fun rs => M.opt (biM rs .ord [D.str x]) rs) (oOrd x) := by
  unfold oOrd
  show Sim D.int (M.opt (if x.length = 1 then some (D.int (x.cps.getD 0 0 : Nat)) else none)) _
  split
  · exact Sim.ok
  · exact Sim.stuck
/-! what is walked -/
abbrev EvI (G : Cfg) (pk : Bool) (it : It) (ρ : Env) {α : Type} (enc : α → D) (t : M (List α)) : Prop := Sim (List.map enc) (evalIt G pk it ρ) t
theorem it_rng1 {ta : M Int} (ha : Ev G true a ρ D.int ta) : EvI G pk (.rng1 a) ρ D.int (tB1 oRng1 ta) := Sim.bind ha fun i => by
  unfold oRng1
  dsimp only
  split
  · refine Sim.ok' ?_
    unfold rngL
    rw [List.map_map, Int.sub_zero]
    congr 1
    funext k
    show D.int _ = D.int _
    rw [Int.zero_add]
  · exact Sim.stuck
theorem it_rng2 {ta tb : M Int} (ha : Ev G true a ρ D.int ta) (hb : Ev G true b ρ D.int tb) : EvI G pk (.rng2 a b) ρ D.int (tB2 oRng2 ta tb) := Sim.bind ha fun i => Sim.bind hb fun j => by
  unfold oRng2
  dsimp only
  split
  · refine Sim.ok' ?_
    unfold rngL
    rw [List.map_map]; rfl
  · exact Sim.stuck
theorem it_rng3 {ta tb tc : M Int} (ha : Ev G true a ρ D.int ta) (hb : Ev G true b ρ D.int tb) (hc : Ev G true c ρ D.int tc) : EvI G pk (.rng3 a b c) ρ D.int (tB3 oRng3 ta tb tc) := Sim.bind ha fun i => Sim.bind hb fun j => Sim.bind hc fun k => by
  unfold oRng3
  dsimp only
  split
  · refine Sim.ok' ?_
    unfold rngC
    rw [List.map_map]; rfl
  · exact Sim.stuck
theorem it_w {f : α → List D} {u : α → List β} (hf : ∀ x, walkD (e1 x) = some ((u x).map e2)) (ha : Ev G pk a ρ e1 ta) : EvI G pk (.seq a) ρ e2 (tB1 (fun x => M.ok (u x)) ta) := Sim.bind (k := fun x => M.opt (walkD x)) ha fun x => opt_ok (hf x)
theorem it_T {ta : M (List α)} (ha : Ev G pk a ρ (eT e1) ta) : EvI G pk (.seq a) ρ e1 ta := by
  have := Sim.bind (g := List.map e1) (k := fun x => M.opt (walkD x)) (u := fun x => M.ok x) ha fun x => Sim.ok
  rw [bind_okr] at this; exact this
theorem it_L {ta : M (List α)} (ha : Ev G pk a ρ (eL e1) ta) : EvI G pk (.seq a) ρ e1 ta := by
  have := Sim.bind (g := List.map e1) (k := fun x => M.opt (walkD x)) (u := fun x => M.ok x) ha fun x => Sim.ok
  rw [bind_okr] at this; exact this
theorem it_K {ta : M (List α)} (ha : Ev G pk a ρ (eK e1) ta) : EvI G pk (.seq a) ρ e1 ta := by
  have := Sim.bind (g := List.map e1) (k := fun x => M.opt (walkD x)) (u := fun x => M.ok x) ha fun x => Sim.ok
  rw [bind_okr] at this; exact this
theorem it_C {ta : M (List α)} (ha : Ev G pk a ρ (eC e1) ta) : EvI G pk (.seq a) ρ e1 ta := by
  have := Sim.bind (g := List.map e1) (k := fun x => M.opt (walkD x)) (u := fun x => M.ok x) ha fun x => Sim.ok
  rw [bind_okr] at this; exact this
def oChars (s : Str) : M (List Str) := M.ok (s.cps.toList.map fun c => (⟨#[c]⟩ : Str))
theorem it_S {ta : M Str} (ha : Ev G pk a ρ D.str ta) : EvI G pk (.seq a) ρ D.str (tB1 oChars ta) := Sim.bind (k := fun x => M.opt (walkD x)) ha fun x => opt_ok (by show some (x.cps.toList.map _) = _; rw [List.map_map]; rfl)
/-! comprehensions -/
theorem sim_tMap {F : D → M (Option D)} {f : α → M β} (h : ∀ x, Sim (fun y => some (e2 y)) (F (e1 x)) (f x)) : ∀ l : List α, Sim (List.map e2) (loopC F (l.map e1)) (tMap f l)
  | [] => Sim.ok' rfl
  | x :: l => Sim.bind (h x) fun y => Sim.bind (sim_tMap h l) fun ys => Sim.ok' rfl
theorem sim_tMapO {F : D → M (Option D)} {f : α → M (Option β)} (h : ∀ x, Sim (Option.map e2) (F (e1 x)) (f x)) : ∀ l : List α, Sim (List.map e2) (loopC F (l.map e1)) (tMapO f l)
  | [] => Sim.ok' rfl
  | x :: l => Sim.bind (h x) fun y => Sim.bind (sim_tMapO h l) fun ys => Sim.ok' (by cases y <;> rfl)
theorem ev_comp {el : E} {xs : List Nat} {it : It} {tl : M (List α)} {f : α → M β} (hit : EvI G true it ρ e1 tl) (hb : ∀ x, ∃ ρ', bindT xs (e1 x) (wipeE ρ xs) = some ρ' ∧ Ev G false el ρ' e2 (f x)) : Ev G pk (.comp el xs it .nil) ρ (eL e2) (tComp tl f) := by
  rw [Ev, comp_eq]
  refine Sim.bind hit fun l => ?_
  rw [List.length_map]
  split
  · have q : Sim (List.map e2) (loopC (compF G el xs .nil ρ) (l.map e1)) (tMap f l) := sim_tMap (fun x => by
      obtain ⟨ρ', h1, h2⟩ := hb x
      unfold compF
      rw [h1]
      show Sim _ (M.bind (M.ok ρ') fun ρ' => M.bind (M.ok true) fun k => if k then M.bind (evalE G false el ρ') fun y => M.ok (some y) else M.ok none) _
      rw [bind_okl, bind_okl, if_pos rfl]
      have := Sim.bind (g := fun y => some (e2 y)) (k := fun y => M.ok (some y)) (u := fun y => M.ok y) h2 fun y => Sim.ok
      rw [bind_okr] at this; exact this) l
    have := Sim.bind (g := eL e2) (k := fun ys => M.ok (D.lst ys)) (u := fun y => M.ok y) q.nox fun y => Sim.ok
    rw [bind_okr] at this; exact this
  · exact Sim.stuck
theorem ev_compI {el cd : E} {xs : List Nat} {it : It} {tl : M (List α)} {f : α → M β} {cf : α → M Bool} (hit : EvI G true it ρ e1 tl) (hb : ∀ x, ∃ ρ', bindT xs (e1 x) (wipeE ρ xs) = some ρ' ∧ Ev G true cd ρ' D.bl (cf x) ∧ Ev G false el ρ' e2 (f x)) : Ev G pk (.comp el xs it (.cons cd .nil)) ρ (eL e2) (tCompI tl cf f) := by
  rw [Ev, comp_eq]
  refine Sim.bind hit fun l => ?_
  rw [List.length_map]
  split
  · have q : Sim (List.map e2) (loopC (compF G el xs (.cons cd .nil) ρ) (l.map e1)) (tMapO (fun x => M.bind (cf x) fun k => if k then M.bind (f x) fun y => M.ok (some y) else M.ok none) l) := sim_tMapO (fun x => by
      obtain ⟨ρ', h1, h0, h2⟩ := hb x
      unfold compF
      rw [h1]
      show Sim _ (M.bind (M.ok ρ') fun ρ' => M.bind (evalCs G (.cons cd .nil) ρ') fun k => if k then M.bind (evalE G false el ρ') fun y => M.ok (some y) else M.ok none) _
      rw [bind_okl]
      have e : evalCs G (.cons cd .nil) ρ' = M.bind (evalE G true cd ρ') fun x => (match x with | D.bl true => M.ok true | D.bl false => M.ok false | _ => M.stuck) := rfl
      rw [e, bind_assoc]
      refine Sim.bind h0 fun z => ?_
      cases z
      · exact Sim.ok' rfl
      · rw [if_pos rfl]
        show Sim _ (M.bind (M.ok true) _) _
        rw [bind_okl, if_pos rfl]
        exact Sim.bind h2 fun y => Sim.ok' rfl) l
    have := Sim.bind (g := eL e2) (k := fun ys => M.ok (D.lst ys)) (u := fun y => M.ok y) q.nox fun y => Sim.ok
    rw [bind_okr] at this; exact this
  · exact Sim.stuck
end
end Mp

set_option Elab.async false
set_option linter.all false
set_option maxRecDepth 100000
set_option maxHeartbeats 4000000
/-! Ty, part 3: statements. -/
namespace Mp
open PySem
def runK (G : Cfg) : List Ss → Out → M Out
  | [], o => M.ok o
  | r :: st, .nx ρ => M.bind (execSs G r ρ) (runK G st)
  | _ :: _, o => M.ok o
abbrev SK {α : Type} (R : α → Out → Prop) (G : Cfg) (a : Ss) (st : List Ss) (ρ : Env) (t : M α) : Prop := SimR R (M.bind (execSs G a ρ) (runK G st)) t
/-- a def's end -/
def RF {α : Type} (enc : α → D) (a : α) : Out → Prop
  | .ret d => d = enc a
  | .nx _ => enc a = .non
  | _ => False
/-- the end of a loop's body -/
def RL {σ β : Type} (I : σ → Env → Prop) (enc : β → D) : TO σ β → Out → Prop
  | .nx s, .nx ρ => I s ρ
  | .nx s, .ct ρ => I s ρ
  | .bk s, .bk ρ => I s ρ
  | .ret b, .ret d => d = enc b
  | _, _ => False
/-- .. of a body that goes on in any case -/
def RS {σ : Type} (I : σ → Env → Prop) (s : σ) : Out → Prop
  | .nx ρ => I s ρ
  | .ct ρ => I s ρ
  | _ => False
section
variable {G : Cfg} {ρ ρ' : Env} {α β γ δ σ ζ : Type} {R : ζ → Out → Prop} {e1 : α → D} {e2 : β → D} {e3 : γ → D} {e4 : δ → D} {enc : β → D} {e c kx : E} {a b r : Ss} {st : List Ss} {te : M α} {i j : Nat}
theorem runK_nil : runK G [] = M.ok := rfl
theorem sk_env {t : M ζ} (h : ρ = ρ') (k : SK R G a st ρ' t) : SK R G a st ρ t := by rw [h]; exact k
theorem sk_nil {x : ζ} (h : R x (.nx ρ)) : SK R G .nil [] ρ (M.ok x) := SimR.ok h
theorem sk_pop {t : M ζ} (h : SK R G r st ρ t) : SK R G .nil (r :: st) ρ t := h
theorem sk_pop0 {t : M ζ} (h : SK R G .nil st ρ t) : SK R G .nil (.nil :: st) ρ t := h
/-- one statement that goes on -/
theorem sk_step {s : S} {ts : M β} {f : β → Env} {k : β → M ζ} (h : SimR (fun b o => o = Out.nx (f b)) (execS G s ρ) ts) (hk : ∀ b, SK R G r st (f b) (k b)) : SK R G (.cons s r) st ρ (M.bind ts k) := by
  have e : M.bind (execSs G (.cons s r) ρ) (runK G st) = M.bind (execS G s ρ) fun o => M.bind (match o with
    | .nx ρ' => execSs G r ρ'
    | .ret d => M.ok (Out.ret d)
    | .bk ρ' => M.ok (Out.bk ρ')
    | .ct ρ' => M.ok (Out.ct ρ')) (runK G st) := bind_assoc _ _ _
  rw [SK, e]
  exact SimR.bind h fun b o ho => by subst ho; exact hk b
theorem sk_set {k : α → M ζ} (he : Ev G false e ρ e1 te) (hk : ∀ x, SK R G r st (ρ.set i (some (.d (e1 x)))) (k x)) : SK R G (.cons (.set i e) r) st ρ (M.bind te k) :=
  sk_step (f := fun x => ρ.set i (some (.d (e1 x)))) (by
    have := Sim.bindR (R := fun b o => o = Out.nx (ρ.set i (some (.d (e1 b))))) (k := fun x => M.ok (Out.nx (ρ.set i (some (.d x))))) (u := fun x => M.ok x) he fun x => SimR.ok rfl
    rw [bind_okr] at this; exact this) hk
theorem sk_own {te : M (List α)} {k : List α → M ζ} (he : Ev G false e ρ (eL e1) te) (hk : ∀ x, SK R G r st (ρ.set i (some (.ol (x.map e1)))) (k x)) : SK R G (.cons (.own i e) r) st ρ (M.bind te k) :=
  sk_step (f := fun x => ρ.set i (some (.ol (x.map e1)))) (by
    have := Sim.bindR (R := fun b o => o = Out.nx (ρ.set i (some (.ol (b.map e1))))) (k := fun x => (match x with
      | D.lst xs => M.ok (Out.nx (ρ.set i (some (SV.ol xs))))
      | D.dic t ks vs => M.ok (Out.nx (ρ.set i (some (SV.od t ks vs))))
      | _ => M.stuck)) (u := fun x => M.ok x) he fun x => by dsimp only [eL]; exact SimR.ok rfl
    rw [bind_okr] at this; exact this) hk
theorem sk_ownD {t : Bool} {te : M (List (α × β))} {k : List (α × β) → M ζ} (he : Ev G false e ρ (eD t e1 e2) te) (hk : ∀ x : List (α × β), SK R G r st (ρ.set i (some (.od t (x.map fun p => e1 p.1) (x.map fun p => e2 p.2)))) (k x)) : SK R G (.cons (.own i e) r) st ρ (M.bind te k) :=
  sk_step (f := fun x => ρ.set i (some (.od t (x.map fun p => e1 p.1) (x.map fun p => e2 p.2)))) (by
    have := Sim.bindR (R := fun b o => o = Out.nx (ρ.set i (some (.od t (b.map fun p => e1 p.1) (b.map fun p => e2 p.2))))) (k := fun x => (match x with
      | D.lst xs => M.ok (Out.nx (ρ.set i (some (SV.ol xs))))
      | D.dic t ks vs => M.ok (Out.nx (ρ.set i (some (SV.od t ks vs))))
      | _ => M.stuck)) (u := fun x => M.ok x) he fun x => by dsimp only [eD]; exact SimR.ok rfl
    rw [bind_okr] at this; exact this) hk
/-- several names for a tuple's items -/
theorem sk_un {is : List Nat} {f : α → Env} {k : α → M ζ} (hf : ∀ x, ∃ ds, e1 x = .tup ds ∧ putAll is ds ρ = some (f x)) (he : Ev G false e ρ e1 te) (hk : ∀ x, SK R G r st (f x) (k x)) : SK R G (.cons (.un is e) r) st ρ (M.bind te k) :=
  sk_step (f := f) (by
    have := Sim.bindR (R := fun b o => o = Out.nx (f b)) (k := fun x => (match x with
      | D.tup ds => (match putAll is ds ρ with | some ρ' => M.ok (Out.nx ρ') | none => M.stuck)
      | _ => M.stuck)) (u := fun x => M.ok x) he fun x => by
        obtain ⟨ds, h1, h2⟩ := hf x
        rw [h1]
        dsimp only
        rw [h2]
        exact SimR.ok rfl
    rw [bind_okr] at this; exact this) hk
theorem sk_un2 {te : M (α × β)} {k : α × β → M ζ} (he : Ev G false e ρ (eP2 e1 e2) te) (hk : ∀ x, SK R G r st ((ρ.set i (some (.d (e1 x.1)))).set j (some (.d (e2 x.2)))) (k x)) : SK R G (.cons (.un [i, j] e) r) st ρ (M.bind te k) := sk_un (fun x => ⟨_, rfl, rfl⟩) he hk
theorem sk_aug {op : Bop} {x : Int} {te : M Int} {f : Int → Int → Int} {k : Int → M ζ} (hf : ∀ y, evalAug op (.int x) (.int y) = some (.int (f x y))) (h : ρ[i]? = some (some (.d (.int x)))) (he : Ev G true e ρ D.int te) (hk : ∀ y, SK R G r st (ρ.set i (some (.d (.int (f x y))))) (k y)) : SK R G (.cons (.aug i op e) r) st ρ (M.bind te k) :=
  sk_step (f := fun y => ρ.set i (some (.d (.int (f x y))))) (by
    have e' : execS G (.aug i op e) ρ = M.bind (evalE G true e ρ) fun y => M.bind (M.opt (evalAug op (.int x) y)) fun z => M.ok (Out.nx (ρ.set i (some (.d z)))) := by
      show (match ρ[i]? with
      | some (some (.d x)) => M.bind (evalE G true e ρ) fun y => M.bind (M.opt (evalAug op x y)) fun z => M.ok (Out.nx (ρ.set i (some (.d z))))
      | _ => M.stuck) = _
      rw [h]
    rw [e']
    have := Sim.bindR (R := fun b o => o = Out.nx (ρ.set i (some (.d (.int (f x b)))))) (k := fun y => M.bind (M.opt (evalAug op (.int x) y)) fun z => M.ok (Out.nx (ρ.set i (some (.d z))))) (u := fun x => M.ok x) he fun y => by
      rw [hf]; exact SimR.ok rfl
    rw [bind_okr] at this; exact this) hk
theorem sk_augAdd {x : Int} {te : M Int} {k : Int → M ζ} (h : ρ[i]? = some (some (.d (.int x)))) (he : Ev G true e ρ D.int te) (hk : ∀ y, SK R G r st (ρ.set i (some (.d (.int (x + y))))) (k y)) : SK R G (.cons (.aug i .add e) r) st ρ (M.bind te k) := sk_aug (f := fun x y => x + y) (fun _ => rfl) h he hk
theorem sk_augSub {x : Int} {te : M Int} {k : Int → M ζ} (h : ρ[i]? = some (some (.d (.int x)))) (he : Ev G true e ρ D.int te) (hk : ∀ y, SK R G r st (ρ.set i (some (.d (.int (x - y))))) (k y)) : SK R G (.cons (.aug i .sub e) r) st ρ (M.bind te k) := sk_aug (f := fun x y => x - y) (fun _ => rfl) h he hk
def oSet {α : Type} (l : List α) (k : Int) (v : α) : M (List α) := match L2.ixN l.length k with | some j => M.ok (l.set j v) | none => M.stuck
theorem sk_put {l : List α} {tk : M Int} {k : List α → M ζ} (h : ρ[i]? = some (some (.ol (l.map e1)))) (he : Ev G false e ρ e1 te) (hx : Ev G true kx ρ D.int tk) (hk : ∀ l' : List α, SK R G r st (ρ.set i (some (.ol (l'.map e1)))) (k l')) : SK R G (.cons (.put i kx e) r) st ρ (M.bind (M.bind te fun v => M.bind tk fun n => oSet l n v) k) :=
  sk_step (f := fun l' => ρ.set i (some (.ol (l'.map e1)))) (by
    have e' : execS G (.put i kx e) ρ = M.bind (evalE G false e ρ) fun v => M.bind (evalE G true kx ρ) fun kk => (match putIx (.ol (l.map e1)) kk v with | some sv' => M.ok (Out.nx (ρ.set i (some sv'))) | none => M.stuck) := by
      show (M.bind (evalE G false e ρ) fun v => (match ρ[i]? with
      | some (some (.d .st)) => M.bind (evalE G true kx ρ) fun kk => (fun rs => match rs, kk with
        | some l, D.int n => (match L2.ixN l.length n with | some j => Res.ok (Out.nx ρ) (some (l.set j v)) | none => Res.stuck)
        | _, _ => Res.stuck)
      | some (some (.d _)) => M.stuck
      | some (some sv) => M.bind (evalE G true kx ρ) fun kk => (match putIx sv kk v with | some sv' => M.ok (Out.nx (ρ.set i (some sv'))) | none => M.stuck)
      | _ => M.stuck)) = _
      rw [h]
    rw [e']
    refine Sim.bindR he fun v => Sim.bindR hx fun n => ?_
    unfold oSet putIx
    dsimp only
    rw [List.length_map]
    cases L2.ixN l.length n with
    | none => exact SimR.stuck
    | some m => exact SimR.ok (by rw [List.map_set])) hk
theorem sk_putR {te : M Int} {tk : M Int} {k : M ζ} (h : ρ[i]? = some (some (.d .st))) (he : Ev G false e ρ D.int te) (hx : Ev G true kx ρ D.int tk) (hk : SK R G r st ρ k) : SK R G (.cons (.put i kx e) r) st ρ (M.bind (M.bind te fun v => M.bind tk fun n => rPut n v) fun _ => k) :=
  sk_step (f := fun _ : Unit => ρ) (by
    have e' : execS G (.put i kx e) ρ = M.bind (evalE G false e ρ) fun v => M.bind (evalE G true kx ρ) fun kk => (fun rs => match rs, kk with
        | some l, D.int n => (match L2.ixN l.length n with | some j => Res.ok (Out.nx ρ) (some (l.set j v)) | none => Res.stuck)
        | _, _ => Res.stuck) := by
      show (M.bind (evalE G false e ρ) fun v => (match ρ[i]? with
      | some (some (.d .st)) => M.bind (evalE G true kx ρ) fun kk => (fun rs => match rs, kk with
        | some l, D.int n => (match L2.ixN l.length n with | some j => Res.ok (Out.nx ρ) (some (l.set j v)) | none => Res.stuck)
        | _, _ => Res.stuck)
      | some (some (.d _)) => M.stuck
      | some (some sv) => M.bind (evalE G true kx ρ) fun kk => (match putIx sv kk v with | some sv' => M.ok (Out.nx (ρ.set i (some sv'))) | none => M.stuck)
      | _ => M.stuck)) = _
      rw [h]
    rw [e']
    refine Sim.bindR he fun v => Sim.bindR hx fun n rs => ?_
    unfold rPut
    cases rs with
    | none => exact True.intro
    | some l =>
      dsimp only
      cases L2.ixN l.length n with
      | none => exact True.intro
      | some m => exact ⟨_, rfl, rfl⟩) fun _ => hk
/-- x[k] op= e of an own list of ints -/
def oAugIx (f : Int → Int → Int) (l : List Int) (n : Int) (te : M Int) : M (List Int) := M.bind (oIx l n) fun x => M.bind te fun y => oSet l n (f x y)
theorem sk_augIx {op : Bop} {f : Int → Int → Int} (hf : ∀ x y, evalAug op (.int x) (.int y) = some (.int (f x y))) {l : List Int} {te tk : M Int} {k : List Int → M ζ} (h : ρ[i]? = some (some (.ol (l.map D.int)))) (hx : Ev G true kx ρ D.int tk) (he : Ev G true e ρ D.int te) (hk : ∀ l' : List Int, SK R G r st (ρ.set i (some (.ol (l'.map D.int)))) (k l')) :
    SK R G (.cons (.augIx i kx op e) r) st ρ (M.bind (M.bind tk fun n => oAugIx f l n te) k) :=
  sk_step (f := fun l' => ρ.set i (some (.ol (l'.map D.int)))) (by
    have e' : execS G (.augIx i kx op e) ρ = M.bind (evalE G true kx ρ) fun kk => (match kk with
      | D.int n => M.bind (M.opt (L2.atI (l.map D.int) n)) fun x => M.bind (evalE G true e ρ) fun y => M.bind (M.opt (evalAug op x y)) fun z =>
        (match L2.ixN (l.map D.int).length n with | some j => M.ok (Out.nx (ρ.set i (some (.ol ((l.map D.int).set j z))))) | none => M.stuck)
      | _ => M.stuck) := by
      show (M.bind (evalE G true kx ρ) fun kk => (match ρ[i]?, kk with
      | some (some (.ol xs)), .int n => M.bind (M.opt (L2.atI xs n)) fun x => M.bind (evalE G true e ρ) fun y => M.bind (M.opt (evalAug op x y)) fun z =>
        (match L2.ixN xs.length n with | some j => M.ok (Out.nx (ρ.set i (some (.ol (xs.set j z))))) | none => M.stuck)
      | _, _ => M.stuck)) = _
      rw [h]
      congr 1
      funext kk
      cases kk <;> rfl
    rw [e']
    refine Sim.bindR hx fun n => ?_
    refine Sim.bindR (sim_ix l n) fun x => Sim.bindR he fun y => ?_
    rw [hf, List.length_map]
    unfold oSet
    show SimR _ (M.bind (M.ok _) _) _
    rw [bind_okl]
    cases L2.ixN l.length n with
    | none => exact SimR.stuck
    | some m => exact SimR.ok (by rw [List.map_set])) hk
def oApp {α : Type} (l : List α) (v : α) : M (List α) := if l.length < lim then M.ok (l ++ [v]) else M.stuck
theorem sk_app {l : List α} {k : List α → M ζ} (h : ρ[i]? = some (some (.ol (l.map e1)))) (he : Ev G false e ρ e1 te) (hk : ∀ l' : List α, SK R G r st (ρ.set i (some (.ol (l'.map e1)))) (k l')) : SK R G (.cons (.app i e) r) st ρ (M.bind (M.bind te (oApp l)) k) :=
  sk_step (f := fun l' => ρ.set i (some (.ol (l'.map e1)))) (by
    have e' : execS G (.app i e) ρ = M.bind (evalE G false e ρ) fun v => if (l.map e1).length < lim then M.ok (Out.nx (ρ.set i (some (.ol (l.map e1 ++ [v]))))) else M.stuck := by
      show (match ρ[i]? with
      | some (some (.ol xs)) => M.bind (evalE G false e ρ) fun v => if xs.length < lim then M.ok (Out.nx (ρ.set i (some (.ol (xs ++ [v]))))) else M.stuck
      | _ => M.stuck) = _
      rw [h]
    rw [e']
    refine Sim.bindR he fun v => ?_
    unfold oApp
    rw [List.length_map]
    split
    · exact SimR.ok (by rw [List.map_append]; rfl)
    · exact SimR.stuck) hk
theorem sk_frz {l : List α} {t : M ζ} (h : ρ[i]? = some (some (.ol (l.map e1)))) (hk : SK R G r st (ρ.set i (some (.d (eL e1 l)))) t) : SK R G (.cons (.frz i) r) st ρ t := by
  have e' : execS G (.frz i) ρ = M.ok (Out.nx (ρ.set i (some (.d (eL e1 l))))) := by
    show (match ρ[i]? with
      | some (some (.ol xs)) => M.ok (Out.nx (ρ.set i (some (.d (.lst xs)))))
      | some (some (.od t ks vs)) => M.ok (Out.nx (ρ.set i (some (.d (.dic t ks vs)))))
      | _ => M.stuck) = _
    rw [h]
  have : M.bind (execSs G (.cons (.frz i) r) ρ) (runK G st) = M.bind (execSs G r (ρ.set i (some (.d (eL e1 l))))) (runK G st) := by
    show M.bind (M.bind (execS G (.frz i) ρ) _) _ = _
    rw [e']; rfl
  rw [SK, this]; exact hk
theorem sk_frzD {t : Bool} {l : List (α × β)} {u : M ζ} (h : ρ[i]? = some (some (.od t (l.map fun p => e1 p.1) (l.map fun p => e2 p.2)))) (hk : SK R G r st (ρ.set i (some (.d (eD t e1 e2 l)))) u) : SK R G (.cons (.frz i) r) st ρ u := by
  have e' : execS G (.frz i) ρ = M.ok (Out.nx (ρ.set i (some (.d (eD t e1 e2 l))))) := by
    show (match ρ[i]? with
      | some (some (.ol xs)) => M.ok (Out.nx (ρ.set i (some (.d (.lst xs)))))
      | some (some (.od t ks vs)) => M.ok (Out.nx (ρ.set i (some (.d (.dic t ks vs)))))
      | _ => M.stuck) = _
    rw [h]
  have : M.bind (execSs G (.cons (.frz i) r) ρ) (runK G st) = M.bind (execSs G r (ρ.set i (some (.d (eD t e1 e2 l))))) (runK G st) := by
    show M.bind (M.bind (execS G (.frz i) ρ) _) _ = _
    rw [e']; rfl
  rw [SK, this]; exact hk
theorem sk_drop {k : M ζ} (he : Ev G true e ρ e1 te) (hk : SK R G r st ρ k) : SK R G (.cons (.drop e) r) st ρ (M.bind te fun _ => k) :=
  sk_step (f := fun _ => ρ) (by
    have := Sim.bindR (R := fun b o => o = Out.nx ρ) (k := fun x => M.ok (Out.nx ρ)) (u := fun x => M.ok x) he fun x => SimR.ok rfl
    rw [bind_okr] at this; exact this) fun _ => hk
theorem sk_pass {k : M ζ} (hk : SK R G r st ρ k) : SK R G (.cons .pass r) st ρ k := hk
theorem sk_never : SK R G (.cons .never r) st ρ (M.stuck : M ζ) := SimR.stuck
/-- return -/
theorem ret_run {d : D} : runK G st (.ret d) = M.ok (Out.ret d) := by cases st <;> rfl
theorem bk_run {ρ : Env} : runK G st (.bk ρ) = M.ok (Out.bk ρ) := by cases st <;> rfl
theorem ct_run {ρ : Env} : runK G st (.ct ρ) = M.ok (Out.ct ρ) := by cases st <;> rfl
theorem sk_ret {inj : α → ζ} (he : Ev G false e ρ e1 te) (hR : ∀ x, R (inj x) (.ret (e1 x))) : SK R G (.cons (.ret e) r) st ρ (M.bind te fun x => M.ok (inj x)) := by
  have : M.bind (execSs G (.cons (.ret e) r) ρ) (runK G st) = M.bind (evalE G false e ρ) fun x => M.ok (Out.ret x) := by
    show M.bind (M.bind (M.bind (evalE G false e ρ) fun x => M.ok (Out.ret x)) _) _ = _
    rw [bind_assoc, bind_assoc]
    congr 1
    funext x
    rw [bind_okl, bind_okl]
    exact ret_run
  rw [SK, this]
  exact Sim.bindR he fun x => SimR.ok (hR x)
theorem sk_retF (he : Ev G false e ρ e1 te) : SK (RF e1) G (.cons (.ret e) r) st ρ te := by
  have := sk_ret (R := RF e1) (inj := fun x => x) (r := r) (st := st) he fun x => rfl
  rw [bind_okr] at this; exact this
theorem sk_ret0 {e : Unit → D} (h : e () = .non) : SK (RF e) G (.cons .ret0 r) st ρ (M.ok ()) := by
  have : M.bind (execSs G (.cons .ret0 r) ρ) (runK G st) = M.ok (Out.ret .non) := by
    show M.bind (M.bind (M.ok _) _) _ = _
    rw [bind_okl, bind_okl]
    exact ret_run
  rw [SK, this]
  exact SimR.ok h.symm
theorem sk_brk {x : ζ} (h : R x (.bk ρ)) : SK R G (.cons .brk r) st ρ (M.ok x) := by
  have : M.bind (execSs G (.cons .brk r) ρ) (runK G st) = M.ok (Out.bk ρ) := by
    show M.bind (M.bind (M.ok _) _) _ = _
    rw [bind_okl, bind_okl]
    exact bk_run
  rw [SK, this]
  exact SimR.ok h
theorem sk_ct {x : ζ} (h : R x (.ct ρ)) : SK R G (.cons .cont r) st ρ (M.ok x) := by
  have : M.bind (execSs G (.cons .cont r) ρ) (runK G st) = M.ok (Out.ct ρ) := by
    show M.bind (M.bind (M.ok _) _) _ = _
    rw [bind_okl, bind_okl]
    exact ct_run
  rw [SK, this]
  exact SimR.ok h
/-- if -/
theorem sk_if {tc : M Bool} {t1 t2 : M ζ} (hc : Ev G true c ρ D.bl tc) (h1 : SK R G a (r :: st) ρ t1) (h2 : SK R G b (r :: st) ρ t2) : SK R G (.cons (.if_ c a b) r) st ρ (tIf tc t1 t2) := by
  have key : ∀ z : Ss, M.bind (M.bind (execSs G z ρ) fun o => (match o with
      | .nx ρ' => execSs G r ρ'
      | .ret d => M.ok (Out.ret d)
      | .bk ρ' => M.ok (Out.bk ρ')
      | .ct ρ' => M.ok (Out.ct ρ'))) (runK G st) = M.bind (execSs G z ρ) (runK G (r :: st)) := fun z => by
    rw [bind_assoc]
    congr 1
    funext o
    cases o with
    | nx ρ' => rfl
    | ret d => exact ret_run
    | bk ρ' => exact bk_run
    | ct ρ' => exact ct_run
  have : M.bind (execSs G (.cons (.if_ c a b) r) ρ) (runK G st) = M.bind (evalE G true c ρ) fun x => (match x with
      | .bl true => M.bind (execSs G a ρ) (runK G (r :: st))
      | .bl false => M.bind (execSs G b ρ) (runK G (r :: st))
      | _ => M.stuck) := by
    show M.bind (M.bind (M.bind (evalE G true c ρ) fun x => (match x with
      | .bl true => execSs G a ρ
      | .bl false => execSs G b ρ
      | _ => M.stuck)) _) _ = _
    rw [bind_assoc, bind_assoc]
    congr 1
    funext x
    cases x <;> first | rfl | skip
    rename_i z
    cases z
    · exact (bind_assoc _ _ _).symm.trans (key b)
    · exact (bind_assoc _ _ _).symm.trans (key a)
  rw [SK, this]
  exact Sim.bindR hc fun z => by
    cases z
    · exact h2
    · exact h1
/-- a named rest -/
theorem sk_join {t : M ζ} (h : SK R G r st ρ t) : SK R G .nil (r :: st) ρ t := h
/-! loops -/
theorem loop_for {f : α → σ → M (TO σ β)} {I : σ → Env → Prop} {F : D → Env → M Out} (hb : ∀ x s ρ, I s ρ → SimR (RL I enc) (F (e1 x) ρ) (f x s)) : ∀ (l : List α) (s : σ) (ρ : Env), I s ρ → SimR (fun o o' => match o, o' with
    | .nx s, .nx ρ => I s ρ
    | .ret b, .ret d => d = enc b
    | _, _ => False) (loopF F (l.map e1) ρ) (tFor f l s)
  | [], s, ρ, h => SimR.ok h
  | x :: l, s, ρ, h => by
    refine SimR.bind (hb x s ρ h) fun o o' ho => ?_
    cases o with
    | nx s' =>
      cases o' with
      | nx ρ' => exact loop_for hb l s' ρ' ho
      | ct ρ' => exact loop_for hb l s' ρ' ho
      | bk ρ' => exact ho.elim
      | ret d => exact ho.elim
    | bk s' =>
      cases o' with
      | bk ρ' => exact SimR.ok ho
      | nx ρ' => exact ho.elim
      | ct ρ' => exact ho.elim
      | ret d => exact ho.elim
    | ret b =>
      cases o' with
      | ret d => exact SimR.ok ho
      | nx ρ' => exact ho.elim
      | ct ρ' => exact ho.elim
      | bk ρ' => exact ho.elim
theorem loop_forS {f : α → σ → M σ} {I : σ → Env → Prop} {F : D → Env → M Out} (hb : ∀ x s ρ, I s ρ → SimR (RS I) (F (e1 x) ρ) (f x s)) : ∀ (l : List α) (s : σ) (ρ : Env), I s ρ → SimR (fun s o' => ∃ ρ, o' = Out.nx ρ ∧ I s ρ) (loopF F (l.map e1) ρ) (tForS f l s)
  | [], s, ρ, h => SimR.ok ⟨ρ, rfl, h⟩
  | x :: l, s, ρ, h => by
    refine SimR.bind (hb x s ρ h) fun s' o' ho => ?_
    cases o' with
    | nx ρ' => exact loop_forS hb l s' ρ' ho
    | ct ρ' => exact loop_forS hb l s' ρ' ho
    | bk ρ' => exact ho.elim
    | ret d => exact ho.elim
theorem execFor {xs : List Nat} {it : It} {b r : Ss} : M.bind (execSs G (.cons (.for_ xs it b) r) ρ) (runK G st) = M.bind (evalIt G false it ρ) fun ds => M.bind (loopF (fun d ρ => M.bind (M.opt (bindT xs d ρ)) fun ρ' => execSs G b ρ') ds ρ) fun o => M.bind (match o with
      | .nx ρ' => execSs G r ρ'
      | .ret d => M.ok (Out.ret d)
      | .bk ρ' => M.ok (Out.bk ρ')
      | .ct ρ' => M.ok (Out.ct ρ')) (runK G st) := by
  show M.bind (M.bind (M.bind (evalIt G false it ρ) fun ds => loopF _ ds ρ) _) _ = _
  rw [bind_assoc, bind_assoc] <;> exact congrArg (M.bind (evalIt G false it ρ)) (funext fun ds => rfl)
theorem sk_for {xs : List Nat} {it : It} {tl : M (List α)} {f : α → σ → M (TO σ β)} {s0 : σ} {k : σ → M ζ} {inj : β → ζ} (I : σ → Env → Prop) (hit : EvI G false it ρ e1 tl) (h0 : I s0 ρ) (hb : ∀ x s ρ, I s ρ → ∃ ρ', bindT xs (e1 x) ρ = some ρ' ∧ SK (RL I enc) G b [] ρ' (f x s))
    (hr : ∀ x, R (inj x) (.ret (enc x))) (hk : ∀ s ρ, I s ρ → SK R G r st ρ (k s)) : SK R G (.cons (.for_ xs it b) r) st ρ (M.bind tl fun l => tAfter (tFor f l s0) k fun b => M.ok (inj b)) := by
  rw [SK, execFor]
  refine Sim.bindR hit fun l => SimR.bind (loop_for (enc := enc) (fun x s ρ hs => ?_) l s0 ρ h0) fun o o' ho => ?_
  · obtain ⟨ρ', h1, h2⟩ := hb x s ρ hs
    rw [h1]
    show SimR _ (M.bind (M.ok ρ') _) _
    rw [bind_okl]
    have h2 : SimR (RL I enc) (M.bind (execSs G b ρ') M.ok) (f x s) := h2
    rw [bind_okr] at h2
    exact h2
  · cases o with
    | nx s =>
      cases o' with
      | nx ρ' => exact hk s ρ' ho
      | ret d => exact ho.elim
      | bk ρ' => exact ho.elim
      | ct ρ' => exact ho.elim
    | bk s => cases o' <;> exact ho.elim
    | ret x =>
      cases o' with
      | ret d =>
        have ho : d = enc x := ho
        subst ho
        dsimp only
        rw [bind_okl, ret_run]
        exact SimR.ok (hr x)
      | nx ρ' => exact ho.elim
      | bk ρ' => exact ho.elim
      | ct ρ' => exact ho.elim
theorem sk_forS {xs : List Nat} {it : It} {tl : M (List α)} {f : α → σ → M σ} {s0 : σ} {k : σ → M ζ} (I : σ → Env → Prop) (hit : EvI G false it ρ e1 tl) (h0 : I s0 ρ) (hb : ∀ x s ρ, I s ρ → ∃ ρ', bindT xs (e1 x) ρ = some ρ' ∧ SK (RS I) G b [] ρ' (f x s))
    (hk : ∀ s ρ, I s ρ → SK R G r st ρ (k s)) : SK R G (.cons (.for_ xs it b) r) st ρ (M.bind tl fun l => M.bind (tForS f l s0) k) := by
  rw [SK, execFor]
  refine Sim.bindR hit fun l => SimR.bind (loop_forS (fun x s ρ hs => ?_) l s0 ρ h0) fun s o' ho => ?_
  · obtain ⟨ρ', h1, h2⟩ := hb x s ρ hs
    rw [h1]
    show SimR _ (M.bind (M.ok ρ') _) _
    rw [bind_okl]
    have h2 : SimR (RS I) (M.bind (execSs G b ρ') M.ok) (f x s) := h2
    rw [bind_okr] at h2
    exact h2
  · obtain ⟨ρ', rfl, h⟩ := ho
    exact hk s ρ' h
theorem loop_while {cf : σ → M Bool} {f : σ → M (TO σ β)} {I : σ → Env → Prop} {C : Env → M D} {F : Env → M Out} (hc : ∀ s ρ, I s ρ → Sim D.bl (C ρ) (cf s)) (hb : ∀ s ρ, I s ρ → SimR (RL I enc) (F ρ) (f s)) : ∀ (n : Nat) (s : σ) (ρ : Env), I s ρ → SimR (fun o o' => match o, o' with
    | .nx s, .nx ρ => I s ρ
    | .ret b, .ret d => d = enc b
    | _, _ => False) (loopW C F n ρ) (tWhile cf f n s)
  | 0, s, ρ, h => SimR.stuck
  | n + 1, s, ρ, h => by
    refine Sim.bindR (hc s ρ h) fun z => ?_
    cases z with
    | false => exact SimR.ok h
    | true =>
      rw [if_pos rfl]
      refine SimR.bind (hb s ρ h) fun o o' ho => ?_
      cases o with
      | nx s' =>
        cases o' with
        | nx ρ' => exact loop_while hc hb n s' ρ' ho
        | ct ρ' => exact loop_while hc hb n s' ρ' ho
        | bk ρ' => exact ho.elim
        | ret d => exact ho.elim
      | bk s' =>
        cases o' with
        | bk ρ' => exact SimR.ok ho
        | nx ρ' => exact ho.elim
        | ct ρ' => exact ho.elim
        | ret d => exact ho.elim
      | ret b =>
        cases o' with
        | ret d => exact SimR.ok ho
        | nx ρ' => exact ho.elim
        | ct ρ' => exact ho.elim
        | bk ρ' => exact ho.elim
theorem loop_whileS {cf : σ → M Bool} {f : σ → M σ} {I : σ → Env → Prop} {C : Env → M D} {F : Env → M Out} (hc : ∀ s ρ, I s ρ → Sim D.bl (C ρ) (cf s)) (hb : ∀ s ρ, I s ρ → SimR (RS I) (F ρ) (f s)) : ∀ (n : Nat) (s : σ) (ρ : Env), I s ρ → SimR (fun s o' => ∃ ρ, o' = Out.nx ρ ∧ I s ρ) (loopW C F n ρ) (tWhileS cf f n s)
  | 0, s, ρ, h => SimR.stuck
  | n + 1, s, ρ, h => by
    refine Sim.bindR (hc s ρ h) fun z => ?_
    cases z with
    | false => exact SimR.ok ⟨ρ, rfl, h⟩
    | true =>
      rw [if_pos rfl]
      refine SimR.bind (hb s ρ h) fun s' o' ho => ?_
      cases o' with
      | nx ρ' => exact loop_whileS hc hb n s' ρ' ho
      | ct ρ' => exact loop_whileS hc hb n s' ρ' ho
      | bk ρ' => exact ho.elim
      | ret d => exact ho.elim
theorem execWhile {b r : Ss} : M.bind (execSs G (.cons (.while_ c b) r) ρ) (runK G st) = M.bind (loopW (fun ρ => evalE G true c ρ) (fun ρ => execSs G b ρ) G.fuel ρ) fun o => M.bind (match o with
      | .nx ρ' => execSs G r ρ'
      | .ret d => M.ok (Out.ret d)
      | .bk ρ' => M.ok (Out.bk ρ')
      | .ct ρ' => M.ok (Out.ct ρ')) (runK G st) := bind_assoc _ _ _
theorem sk_while {n : Nat} (hn : G.fuel = n) {cf : σ → M Bool} {f : σ → M (TO σ β)} {s0 : σ} {k : σ → M ζ} {inj : β → ζ} (I : σ → Env → Prop) (h0 : I s0 ρ) (hc : ∀ s ρ, I s ρ → Ev G true c ρ D.bl (cf s)) (hb : ∀ s ρ, I s ρ → SK (RL I enc) G b [] ρ (f s))
    (hr : ∀ x, R (inj x) (.ret (enc x))) (hk : ∀ s ρ, I s ρ → SK R G r st ρ (k s)) : SK R G (.cons (.while_ c b) r) st ρ (tAfter (tWhile cf f n s0) k fun b => M.ok (inj b)) := by
  rw [SK, execWhile, hn]
  refine SimR.bind (loop_while (enc := enc) hc (fun s ρ hs => ?_) n s0 ρ h0) fun o o' ho => ?_
  · have h2 : SimR (RL I enc) (M.bind (execSs G b ρ) M.ok) (f s) := hb s ρ hs
    rw [bind_okr] at h2
    exact h2
  · cases o with
    | nx s =>
      cases o' with
      | nx ρ' => exact hk s ρ' ho
      | ret d => exact ho.elim
      | bk ρ' => exact ho.elim
      | ct ρ' => exact ho.elim
    | bk s => cases o' <;> exact ho.elim
    | ret x =>
      cases o' with
      | ret d =>
        have ho : d = enc x := ho
        subst ho
        dsimp only
        rw [bind_okl, ret_run]
        exact SimR.ok (hr x)
      | nx ρ' => exact ho.elim
      | bk ρ' => exact ho.elim
      | ct ρ' => exact ho.elim
theorem sk_whileS {n : Nat} (hn : G.fuel = n) {cf : σ → M Bool} {f : σ → M σ} {s0 : σ} {k : σ → M ζ} (I : σ → Env → Prop) (h0 : I s0 ρ) (hc : ∀ s ρ, I s ρ → Ev G true c ρ D.bl (cf s)) (hb : ∀ s ρ, I s ρ → SK (RS I) G b [] ρ (f s))
    (hk : ∀ s ρ, I s ρ → SK R G r st ρ (k s)) : SK R G (.cons (.while_ c b) r) st ρ (M.bind (tWhileS cf f n s0) k) := by
  rw [SK, execWhile, hn]
  refine SimR.bind (loop_whileS hc (fun s ρ hs => ?_) n s0 ρ h0) fun s o' ho => ?_
  · have h2 : SimR (RS I) (M.bind (execSs G b ρ) M.ok) (f s) := hb s ρ hs
    rw [bind_okr] at h2
    exact h2
  · obtain ⟨ρ', rfl, h⟩ := ho
    exact hk s ρ' h
/-! defs -/
theorem sim_run {T : Tab} {fuel k : Nat} {fn : Fn} {args : List D} {t : M α} {ρ : Env} (h2 : fn.kd ≠ 2) (hl : args.length = fn.ps) (hρ : args.map (fun d => some (.d d)) ++ List.replicate (fn.n - fn.ps) none = ρ) (hb : SK (RF e1) (cfgOf T fuel k) fn.body [] ρ t) : Sim e1 (runFn (cfgOf T fuel k) fn args) t := by
  have e : runFn (cfgOf T fuel k) fn args = M.bind (execSs (cfgOf T fuel k) fn.body ρ) fun o => match o with
      | Out.ret d => M.ok d
      | Out.nx _ => M.ok D.non
      | _ => M.stuck := by
    have e1 : runFn (cfgOf T fuel k) fn args = (if args.length = fn.ps then
      M.bind (execSs (cfgOf T fuel k) fn.body (args.map (fun d => some (.d d)) ++ List.replicate (fn.n - fn.ps) none)) fun o => match o with
      | .ret d => .ok d
      | .nx _ => .ok .non
      | _ => .stuck
      else .stuck) := if_neg h2
    rw [e1, if_pos hl, hρ] <;> exact congrArg (M.bind (execSs (cfgOf T fuel k) fn.body ρ)) (funext fun o => by cases o <;> rfl)
  rw [e]
  have hb : SimR (RF e1) (M.bind (execSs (cfgOf T fuel k) fn.body ρ) M.ok) t := hb
  rw [bind_okr] at hb
  have := SimR.bind (R' := fun a b => b = e1 a) (k := fun o => match o with
      | Out.ret d => M.ok d
      | Out.nx _ => M.ok D.non
      | _ => M.stuck) (u := fun a => M.ok a) hb fun a o ho => by
    cases o with
    | ret d => exact SimR.ok ho
    | nx ρ => exact SimR.ok (Eq.symm ho)
    | bk ρ => exact ho.elim
    | ct ρ => exact ho.elim
  rw [bind_okr] at this
  exact this.sim
theorem sim_call {T : Tab} {fuel k i : Nat} {fn : Fn} {args : List D} {t : M α} {ρ : Env} (h : T.fns[i]? = some fn) (h2 : fn.kd ≠ 2) (h3 : fn.kd ≠ 3) (hl : args.length = fn.ps) (hρ : args.map (fun d => some (.d d)) ++ List.replicate (fn.n - fn.ps) none = ρ) (hb : SK (RF e1) (cfgOf T fuel k) fn.body [] ρ t) : Sim e1 (callK T fuel (fun _ => none) (k + 1) i args) t := by
  rw [callK_ev h, if_neg h2, if_neg h3]
  exact sim_run h2 hl hρ hb
theorem sim_str {T : Tab} {fuel k i : Nat} {fn : Fn} {args : List D} {t : M α} {ρ : Env} (h : T.fns[i]? = some fn) (h3 : fn.kd = 3) (hl : args.length = fn.ps) (hρ : args.map (fun d => some (.d d)) ++ List.replicate (fn.n - fn.ps) none = ρ) (hb : SK (RF e1) (cfgOf T fuel k) fn.body [] ρ t) : Sim e1 (callK T fuel (fun _ => none) (k + 3) i args) t := by
  have h2 : fn.kd ≠ 2 := by omega
  rw [callK_ev h, if_neg h2, if_pos h3]
  exact sim_run h2 hl hρ hb
end
end Mp

set_option Elab.async false
set_option linter.all false
set_option maxRecDepth 100000
set_option maxHeartbeats 4000000
/-! Ty, part 4: order, sorting, ends of loops' bodies. -/
namespace Mp
open PySem
def lexL {α : Type} [DecidableEq α] (lt : α → α → Bool) : List α → List α → Bool
  | [], [] => false
  | [], _ :: _ => true
  | _ :: _, [] => false
  | x :: xs, y :: ys => if x = y then lexL lt xs ys else lt x y
def ltI (x y : Int) : Bool := decide (x < y)
def lexP {α β : Type} [DecidableEq α] (l1 : α → α → Bool) (l2 : β → β → Bool) (x y : α × β) : Bool := if x.1 = y.1 then l2 x.2 y.2 else l1 x.1 y.1
structure OrdOK {α : Type} [DecidableEq α] (e : α → D) (lt : α → α → Bool) (emp : α → Bool) (n : Nat) : Prop where
  ex : ∃ q : α → PyData, (∀ a, (e a).py = some (q a)) ∧ (∀ a, (q a).depth ≤ n) ∧ (∀ a b, PyData.eqv (q a) (q b) = decide (a = b)) ∧ (∀ a b, ltP (q a) (q b) = some (lt a b)) ∧ (∀ a, ordP (q a) = true) ∧ (∀ a b, PySem.W.alike (q a) (q b) = true) ∧ (∀ a, (match q a with | .tuple [] => true | _ => false) = emp a) ∧ ∀ a, lt a a = false
def noE {α : Type} (_ : α) : Bool := false
section
variable {α β : Type} [DecidableEq α] [DecidableEq β] {e : α → D} {f : β → D} {lt : α → α → Bool} {l2 : β → β → Bool} {emp : α → Bool} {em2 : β → Bool} {n : Nat}
theorem OrdOK.eqok (H : OrdOK e lt emp n) : EqOK e n := by
  obtain ⟨q, h1, h2, h3, _⟩ := H
  exact ⟨q, h1, h2, h3⟩
theorem ord_int : OrdOK D.int ltI noE 0 := ⟨PyData.int, fun _ => rfl, fun _ => Nat.le_refl _, fun a b => by show (a == b) = _; by_cases h : a = b <;> simp [h], fun _ _ => rfl, fun _ => rfl, fun _ _ => rfl, fun _ => rfl, fun a => by simp [ltI]⟩
theorem lexL_irr {lt : α → α → Bool} (h : ∀ a, lt a a = false) : ∀ x : List α, lexL lt x x = false
  | [] => rfl
  | a :: x => by rw [lexL, if_pos rfl]; exact lexL_irr h x
theorem ltPs_mapG {q : α → PyData} (h3 : ∀ a b, PyData.eqv (q a) (q b) = decide (a = b)) (h4 : ∀ a b, ltP (q a) (q b) = some (lt a b)) : ∀ x y : List α, ltPs (x.map q) (y.map q) = some (lexL lt x y)
  | [], [] => rfl
  | [], _ :: _ => rfl
  | _ :: _, [] => rfl
  | a :: x, b :: y => by
    show (match ltPs (x.map q) (y.map q) with | some t => if PyData.eqv (q a) (q b) then some t else ltP (q a) (q b) | none => none) = _
    rw [ltPs_mapG h3 h4 x y]
    dsimp only
    rw [h3, h4, lexL]
    by_cases h : a = b <;> simp [h]
theorem ordPs_mapG {q : α → PyData} (h : ∀ a, ordP (q a) = true) : ∀ x : List α, ordPs (x.map q) = true
  | [] => rfl
  | a :: x => by show (ordP (q a) && ordPs (x.map q)) = true; rw [h, ordPs_mapG h x]; rfl
theorem alikeAll_mapG {q : α → PyData} (h : ∀ a b, PySem.W.alike (q a) (q b) = true) : ∀ x y : List α, PySem.W.alikeAll (x.map q) (y.map q) = true
  | [], [] => rfl
  | [], _ :: _ => rfl
  | _ :: _, [] => rfl
  | a :: x, b :: y => by show (PySem.W.alike (q a) (q b) && PySem.W.alikeAll (x.map q) (y.map q)) = true; rw [h, alikeAll_mapG h x y]; rfl
theorem ord_T (H : OrdOK e lt emp n) : OrdOK (eT e) (lexL lt) List.isEmpty (n + 1) := by
  obtain ⟨q, h1, h2, h3, h4, h5, h6, h7, h8⟩ := H
  refine ⟨fun l => .tuple (l.map q), fun l => ?_, fun l => Nat.succ_le_succ (depthAll_mapG h2 l), fun a b => eqvAll_mapG h3 a b, fun a b => ltPs_mapG h3 h4 a b, fun a => ordPs_mapG h5 a, fun a b => alikeAll_mapG h6 a b, fun a => ?_, lexL_irr h8⟩
  · show (match D.pys (l.map e) with | some l => some (PyData.tuple l) | none => none) = _
    rw [pys_mapG h1]
  · cases a <;> rfl
theorem ord_P2 (H1 : OrdOK e lt emp n) (H2 : OrdOK f l2 em2 n) : OrdOK (eP2 e f) (lexP lt l2) noE (n + 1) := by
  obtain ⟨q, h1, h2, h3, h4, h5, h6, h7, h8⟩ := H1
  obtain ⟨r, i1, i2, i3, i4, i5, i6, i7, i8⟩ := H2
  refine ⟨fun x => .tuple [q x.1, r x.2], fun x => ?_, fun x => Nat.succ_le_succ (Nat.max_le.mpr ⟨h2 _, Nat.max_le.mpr ⟨i2 _, Nat.zero_le _⟩⟩), fun a b => ?_, fun a b => ?_, fun a => ?_, fun a b => ?_, fun a => rfl, fun a => by unfold lexP; rw [if_pos rfl]; exact i8 _⟩
  · simp [D.py, D.pys, h1, i1]
  · show (PyData.eqv _ _ && (PyData.eqv _ _ && true)) = _
    rw [h3, i3]
    obtain ⟨a1, a2⟩ := a; obtain ⟨b1, b2⟩ := b
    by_cases z1 : a1 = b1 <;> by_cases z2 : a2 = b2 <;> simp [z1, z2]
  · show (match (match (some false : Option Bool) with | some t => if PyData.eqv (r a.2) (r b.2) then some t else ltP (r a.2) (r b.2) | none => none) with | some t => if PyData.eqv (q a.1) (q b.1) then some t else ltP (q a.1) (q b.1) | none => none) = _
    rw [h3, i3, h4, i4]
    unfold lexP
    obtain ⟨a1, a2⟩ := a; obtain ⟨b1, b2⟩ := b
    have irr := i8 b2
    by_cases z1 : a1 = b1 <;> by_cases z2 : a2 = b2 <;> simp [z1, z2, irr]
  · show (ordP _ && (ordP _ && true)) = true
    rw [h5, i5]; rfl
  · show (PySem.W.alike _ _ && (PySem.W.alike _ _ && true)) = true
    rw [h6, i6]; rfl
theorem OrdOK.ltq (H : OrdOK e lt emp n) (h : n ≤ 60) (x y : α) : D.lt (e x) (e y) = some (lt x y) := by
  obtain ⟨q, h1, h2, h3, h4, _⟩ := H
  unfold D.lt
  rw [h1, h1]
  have := h2 x
  have := h2 y
  simp only [h4]
  rw [if_pos ⟨by omega, by omega⟩]
def oLtG (lt : α → α → Bool) (x y : α) : M Bool := M.ok (lt x y)
theorem c_ltG (H : OrdOK e lt emp n) (h : n ≤ 60) (x y : α) : Sim id (M.opt (evalCmp .lt (e x) (e y))) (oLtG lt x y) := opt_ok (H.ltq h x y)
/-! sorting -/
def insL (lt : α → α → Bool) (x : α) : List α → List α
  | [] => [x]
  | y :: r => if lt x y then x :: y :: r else y :: insL lt x r
def isort (lt : α → α → Bool) : List α → List α
  | [] => []
  | x :: r => insL lt x (isort lt r)
theorem insD_map (H : OrdOK e lt emp n) (h : n ≤ 60) (x : α) : ∀ l : List α, insD (e x) (l.map e) = (insL lt x l).map e
  | [] => rfl
  | y :: l => by
    show (match D.lt (e x) (e y) with | some true => e x :: e y :: l.map e | _ => e y :: insD (e x) (l.map e)) = _
    rw [H.ltq h, insD_map H h x l, insL]
    cases lt x y <;> rfl
theorem sortD_map (H : OrdOK e lt emp n) (h : n ≤ 60) : ∀ l : List α, sortD (l.map e) = (isort lt l).map e
  | [] => rfl
  | x :: l => by
    show insD (e x) (sortD (l.map e)) = _
    rw [sortD_map H h l, insD_map H h]; rfl
theorem pairAlike_map {q : α → PyData} (h : ∀ a b, PySem.W.alike (q a) (q b) = true) : ∀ l : List α, pairAlike (l.map q) = true
  | [] => rfl
  | a :: l => by
    show ((l.map q).all _ && pairAlike (l.map q)) = true
    rw [pairAlike_map h l, Bool.and_true, List.all_map, List.all_eq_true]
    intro b _
    exact h a b
def oSorted (lt : α → α → Bool) (emp : α → Bool) (l : List α) : M (List α) := if (l.all fun x => !emp x) || l.all emp then M.ok (isort lt l) else M.stuck
theorem f_sorted (H : OrdOK e lt emp n) (h : n ≤ 60) (l : List α) : Sim (eL e) (fun rs => M.opt (biM rs .sorted [eL e l]) rs) (oSorted lt emp l) := by
  show Sim (eL e) (M.opt (if sortable (l.map e) then some (.lst (sortD (l.map e))) else none)) _
  unfold oSorted
  rw [sortD_map H h]
  obtain ⟨q, h1, h2, h3, h4, h5, h6, h7, h8⟩ := H
  have hs : sortable (l.map e) = ((l.all fun x => !emp x) || l.all emp) := by
    unfold sortable
    rw [pys_mapG h1]
    dsimp only
    rw [decide_eq_true (Nat.le_trans (depthAll_mapG h2 l) h), ordPs_mapG h5, pairAlike_map h6, Bool.true_and, Bool.true_and, Bool.true_and, List.all_map, List.all_map]
    congr 1
    · congr 1; funext x; show (match q x with | .tuple [] => false | _ => true) = !emp x
      rw [← h7 x]
      rcases q x with _ | _ | _ | _ | _ | (_ | _) | _ <;> rfl
    · congr 1; funext x; exact h7 x
  rw [hs]
  split
  · exact Sim.ok
  · exact Sim.stuck
end
/-! the ends of a loop's body -/
section
variable {G : Cfg} {ρ : Env} {σ β : Type} {I : σ → Env → Prop} {enc : β → D} {r : Ss} {st : List Ss} {s : σ}
theorem sk_endS (h : I s ρ) : SK (RS I) G .nil [] ρ (M.ok s) := sk_nil h
theorem sk_endL (h : I s ρ) : SK (RL I enc) G .nil [] ρ (M.ok (TO.nx s)) := sk_nil h
theorem sk_brkL (h : I s ρ) : SK (RL I enc) G (.cons .brk r) st ρ (M.ok (TO.bk s)) := sk_brk h
theorem sk_ctS (h : I s ρ) : SK (RS I) G (.cons .cont r) st ρ (M.ok s) := sk_ct h
theorem sk_ctL (h : I s ρ) : SK (RL I enc) G (.cons .cont r) st ρ (M.ok (TO.nx s)) := sk_ct h
end
/-! more -/
@[reducible] def eR : Unit → D := fun _ => .st
def rHas : M Unit := fun rs => match rs with | some _ => .ok () rs | none => .stuck
theorem eq_U : EqOK eU 0 := ⟨fun _ => .none, fun _ => rfl, fun _ => Nat.le_refl _, fun _ _ => rfl⟩
theorem c_isB (x y : Bool) : Sim id (M.opt (evalCmp .is (.bl x) (.bl y))) (oEq x y) := opt_ok (by show some (decide (x = y)) = _; rfl)
theorem c_isnB (x y : Bool) : Sim id (M.opt (evalCmp .isn (.bl x) (.bl y))) (oNe x y) := opt_ok (by show some (!decide (x = y)) = _; rfl)
section
variable {α β γ : Type} {e : α → D} {f : β → D} {g : γ → D}
theorem nn_I : ∀ (a : Int) (q : PyData), (D.int a).py = some q → PyData.eqv .none q = false ∧ PyData.eqv q .none = false := fun a q h => by cases h; exact ⟨rfl, rfl⟩
theorem nn_S : ∀ (a : Str) (q : PyData), (D.str a).py = some q → PyData.eqv .none q = false ∧ PyData.eqv q .none = false := fun a q h => by cases h; exact ⟨rfl, rfl⟩
theorem nn_B : ∀ (a : Bool) (q : PyData), (D.bl a).py = some q → PyData.eqv .none q = false ∧ PyData.eqv q .none = false := fun a q h => by cases h; exact ⟨rfl, rfl⟩
theorem nn_tup : ∀ (a : List D) (q : PyData), (D.tup a).py = some q → PyData.eqv .none q = false ∧ PyData.eqv q .none = false := fun a q h => by
  simp only [D.py] at h
  split at h
  · cases h; exact ⟨rfl, rfl⟩
  · cases h
theorem nn_lst : ∀ (a : List D) (q : PyData), (D.lst a).py = some q → PyData.eqv .none q = false ∧ PyData.eqv q .none = false := fun a q h => by
  simp only [D.py] at h
  split at h
  · cases h; exact ⟨rfl, rfl⟩
  · cases h
theorem nn_T : ∀ (a : List α) (q : PyData), (eT e a).py = some q → PyData.eqv .none q = false ∧ PyData.eqv q .none = false := fun a q h => nn_tup _ q h
theorem nn_L : ∀ (a : List α) (q : PyData), (eL e a).py = some q → PyData.eqv .none q = false ∧ PyData.eqv q .none = false := fun a q h => nn_lst _ q h
theorem nn_P : ∀ (a : α × β) (q : PyData), (eP2 e f a).py = some q → PyData.eqv .none q = false ∧ PyData.eqv q .none = false := fun a q h => nn_tup _ q h
theorem nn_P3 : ∀ (a : α × β × γ) (q : PyData), (eP3 e f g a).py = some q → PyData.eqv .none q = false ∧ PyData.eqv q .none = false := fun a q h => nn_tup _ q h
end
theorem OrdOK.up {α : Type} [DecidableEq α] {e : α → D} {lt : α → α → Bool} {emp : α → Bool} {n m : Nat} (H : OrdOK e lt emp n) (h : n ≤ m) : OrdOK e lt emp m := by
  obtain ⟨q, h1, h2, h3⟩ := H
  exact ⟨q, h1, fun a => Nat.le_trans (h2 a) h, h3⟩
end Mp

set_option Elab.async false
set_option linter.all false
set_option maxRecDepth 100000
set_option maxHeartbeats 4000000
/-! Ty, part 5: isinstance, dicts, remove, move. -/
namespace Mp
open PySem
theorem key_TI (x : List Int) : keyOk true (eT D.int x) = true := by
  show keyFlat (x.map D.int) = true
  induction x with
  | nil => rfl
  | cons a r ih => exact ih
theorem key_I (x : Int) : keyOk false (D.int x) = true := rfl
theorem key_S (x : Str) : keyOk false (D.str x) = true := rfl
def oIsi (ts : List Ty) (x : D) : M Bool := M.opt (tyAny x ts)
def oK {α : Type} (z : Bool) (_ : α) : M Bool := M.ok z
def oDPut {α β : Type} [DecidableEq α] (l : List (α × β)) (n : α) (v : β) : M (List (α × β)) := if l.length < lim then M.ok (if n ∈ l.map (·.1) then l.map fun p => if p.1 = n then (p.1, v) else p else l ++ [(n, v)]) else M.stuck
def oDGet {α β : Type} [DecidableEq α] (l : List (α × β)) (n : α) : M β := M.opt ((l.find? fun p => decide (p.1 = n)).map (·.2))
def oInD {α β : Type} [DecidableEq α] (x : α) (l : List (α × β)) : M Bool := M.ok (decide (x ∈ l.map (·.1)))
def oNinD {α β : Type} [DecidableEq α] (x : α) (l : List (α × β)) : M Bool := M.ok (!decide (x ∈ l.map (·.1)))
def oRem {α : Type} [DecidableEq α] (l : List α) (x : α) : M (List α) := match l.findIdx? fun y => decide (y = x) with | some j => M.ok (l.eraseIdx j) | none => M.stuck
section
variable {G : Cfg} {pk : Bool} {ρ : Env} {α β γ ζ : Type} {e1 : α → D} {e2 : β → D} {e3 : γ → D} {a b : E} {ta : M α} {tb : M β}
theorem ev_isi {ts : List Ty} {z : Bool} (hz : ∀ x, tyAny (e1 x) ts = some z) (ha : Ev G true a ρ e1 ta) : Ev G pk (.isi a ts) ρ D.bl (tB1 (oK z) ta) :=
  Sim.bind (k := fun x => M.bind (M.opt (tyAny x ts)) fun z => M.ok (D.bl z)) ha fun x => by rw [hz]; exact Sim.ok
theorem ev_isiD {ts : List Ty} {ta : M D} (ha : Ev G true a ρ id ta) : Ev G pk (.isi a ts) ρ D.bl (tB1 (oIsi ts) ta) :=
  Sim.bind (k := fun x => M.bind (M.opt (tyAny x ts)) fun z => M.ok (D.bl z)) ha fun x => by
    unfold oIsi
    show Sim D.bl (M.bind (M.opt (tyAny x ts)) _) _
    cases tyAny x ts with
    | none => exact Sim.stuck
    | some z => exact Sim.ok
theorem ev_dnew {t : Bool} : Ev G pk (.dnew t) ρ (eD t e1 e2) (M.ok []) := Sim.ok' rfl
theorem ev_ddisp (hk : ∀ x, keyOk true (e1 x) = true) (ha : Ev G false a ρ e1 ta) (hb : Ev G false b ρ e2 tb) : Ev G pk (.ddisp a b) ρ (eD true e1 e2) (tB2 (fun x y => M.ok [(x, y)]) ta tb) :=
  Sim.bind (k := fun x => M.bind (evalE G false b ρ) fun y => if keyOk true x then M.ok (D.dic true [x] [y]) else M.stuck) ha fun x => Sim.bind hb fun y => by rw [if_pos (hk x)]; exact Sim.ok' rfl
theorem ev_compK {t : Bool} {el : E} {xs : List Nat} {i : Nat} {l : List (α × β)} {f : α → M γ} (h : ρ[i]? = some (some (.od t (l.map fun p => e1 p.1) (l.map fun p => e2 p.2)))) (hb : ∀ x, ∃ ρ', bindT xs (e1 x) (wipeE (ρ.set i none) xs) = some ρ' ∧ Ev G false el ρ' e3 (f x)) :
    Ev G pk (.compK el xs i .nil) ρ (eL e3) (tComp (M.ok (l.map (·.1))) f) := by
  have e : evalE G pk (.compK el xs i .nil) ρ = if (l.map fun p => e1 p.1).length ≤ lim then M.bind (M.nox (loopC (compF G el xs .nil (ρ.set i none)) (l.map fun p => e1 p.1))) fun ys => M.ok (D.lst ys) else M.stuck := by
    unfold evalE
    rw [h]; rfl
  rw [Ev, e]
  unfold tComp
  rw [show M.bind (M.ok (l.map (·.1))) (fun xs => if xs.length ≤ lim then M.nox (tMap f xs) else M.stuck) = if (l.map (·.1)).length ≤ lim then M.nox (tMap f (l.map (·.1))) else M.stuck from rfl]
  rw [List.length_map, List.length_map]
  split
  · have q : Sim (List.map e3) (loopC (compF G el xs .nil (ρ.set i none)) ((l.map (·.1)).map e1)) (tMap f (l.map (·.1))) := sim_tMap (fun x => by
      obtain ⟨ρ', h1, h2⟩ := hb x
      unfold compF
      rw [h1]
      show Sim _ (M.bind (M.ok ρ') fun ρ' => M.bind (M.ok true) fun k => if k then M.bind (evalE G false el ρ') fun y => M.ok (some y) else M.ok none) _
      rw [bind_okl, bind_okl, if_pos rfl]
      have := Sim.bind (g := fun y => some (e3 y)) (k := fun y => M.ok (some y)) (u := fun y => M.ok y) h2 fun y => Sim.ok
      rw [bind_okr] at this; exact this) _
    rw [List.map_map] at q
    have := Sim.bind (g := eL e3) (k := fun ys => M.ok (D.lst ys)) (u := fun y => M.ok y) q.nox fun y => Sim.ok
    rw [bind_okr] at this; exact this
  · exact Sim.stuck
theorem c_inDt [DecidableEq α] {t : Bool} {n : Nat} (H : EqOK e1 n) (h : n ≤ 60) (hk : ∀ x, keyOk t (e1 x) = true) (x : α) (l : List (α × β)) : Sim id (M.opt (evalCmp .in_ (e1 x) (eD t e1 e2 l))) (oInD x l) := opt_ok (by
  show (if keyOk t (e1 x) then inD (e1 x) (l.map fun p => e1 p.1) else none) = _
  rw [if_pos (hk x), show (l.map fun p => e1 p.1) = (l.map (·.1)).map e1 by rw [List.map_map]; rfl, H.inD h]; rfl)
theorem c_ninDt [DecidableEq α] {t : Bool} {n : Nat} (H : EqOK e1 n) (h : n ≤ 60) (hk : ∀ x, keyOk t (e1 x) = true) (x : α) (l : List (α × β)) : Sim id (M.opt (evalCmp .nin (e1 x) (eD t e1 e2 l))) (oNinD x l) := opt_ok (by
  show (if keyOk t (e1 x) then (inD (e1 x) (l.map fun p => e1 p.1)).map (!·) else none) = _
  rw [if_pos (hk x), show (l.map fun p => e1 p.1) = (l.map (·.1)).map e1 by rw [List.map_map]; rfl, H.inD h]; rfl)
theorem dget_map [DecidableEq α] {n : Nat} (H : EqOK e1 n) (h : n ≤ 60) (x : α) : ∀ l : List (α × β), dget (e1 x) (l.map fun p => e1 p.1) (l.map fun p => e2 p.2) = ((l.find? fun p => decide (p.1 = x)).map (·.2)).map e2
  | [] => rfl
  | p :: l => by
    show (match D.eq (e1 p.1) (e1 x) with | some true => some (e2 p.2) | some false => dget (e1 x) (List.map (fun p : α × β => e1 p.1) l) (List.map (fun p : α × β => e2 p.2) l) | none => none) = _
    rw [H.eq h, dget_map H h x l, List.find?_cons]
    by_cases hz : p.1 = x <;> simp [hz]
theorem ev_ixD [DecidableEq α] {t : Bool} {n : Nat} (H : EqOK e1 n) (h : n ≤ 60) (hk : ∀ x, keyOk t (e1 x) = true) {o i : E} {to : M (List (α × β))} {ti : M α} (ho : Ev G true o ρ (eD t e1 e2) to) (hi : Ev G true i ρ e1 ti) : Ev G pk (.ix o i) ρ e2 (tB2 oDGet to ti) :=
  Sim.bind (k := fun x => M.bind (evalE G true i ρ) fun y => fun rs => M.opt (ixM rs x y) rs) ho fun (l : List (α × β)) => Sim.bind hi fun x => by
    show Sim e2 (M.opt (if keyOk t (e1 x) then dget (e1 x) (List.map (fun p : α × β => e1 p.1) l) (List.map (fun p : α × β => e2 p.2) l) else none)) _
    rw [if_pos (hk x), dget_map H h]
    unfold oDGet
    cases (l.find? fun p => decide (p.1 = x)).map (·.2) with
    | none => exact Sim.stuck
    | some z => exact Sim.ok
end
section
variable {G : Cfg} {ρ ρ' : Env} {α β γ σ ζ : Type} {R : ζ → Out → Prop} {e1 : α → D} {e2 : β → D} {e kx : E} {r : Ss} {st : List Ss} {te : M α} {i j : Nat}
theorem remD_map [DecidableEq α] {n : Nat} (H : EqOK e1 n) (h : n ≤ 60) (x : α) (l : List α) : remD (e1 x) (l.map e1) = (l.findIdx? fun y => decide (y = x)).map fun j => (l.eraseIdx j).map e1 := by
  obtain ⟨q, h1, h2, h3⟩ := H
  unfold remD
  rw [h1, pys_mapG h1]
  have := h2 x
  have := depthAll_mapG h2 l
  dsimp only
  rw [if_pos ⟨by omega, by omega⟩, List.findIdx?_map]
  have e : ((fun y => PyData.eqv y (q x)) ∘ q) = fun y => decide (y = x) := by
    funext y
    exact h3 y x
  rw [e]
  cases l.findIdx? fun y => decide (y = x) with
  | none => rfl
  | some j =>
    show some ((l.map e1).eraseIdx j) = some ((l.eraseIdx j).map e1)
    congr 1
    clear e
    induction l generalizing j with
    | nil => rfl
    | cons a l ih =>
      cases j with
      | zero => rfl
      | succ j => simp only [List.map_cons, List.eraseIdx_cons_succ]; rw [ih (depthAll_mapG h2 l)]
theorem sk_rem [DecidableEq α] {n : Nat} (H : EqOK e1 n) (h60 : n ≤ 60) {l : List α} {k : List α → M ζ} (h : ρ[i]? = some (some (.ol (l.map e1)))) (he : Ev G true e ρ e1 te) (hk : ∀ l' : List α, SK R G r st (ρ.set i (some (.ol (l'.map e1)))) (k l')) : SK R G (.cons (.rem i e) r) st ρ (M.bind (M.bind te (oRem l)) k) :=
  sk_step (f := fun l' => ρ.set i (some (.ol (l'.map e1)))) (by
    have e' : execS G (.rem i e) ρ = M.bind (evalE G true e ρ) fun v => (match remD v (l.map e1) with
        | some ys => M.ok (Out.nx (ρ.set i (some (SV.ol ys))))
        | none => M.stuck) := by
      show (match ρ[i]? with
      | some (some (.ol xs)) => M.bind (evalE G true e ρ) fun v => (match remD v xs with
        | some ys => M.ok (Out.nx (ρ.set i (some (SV.ol ys))))
        | none => M.stuck)
      | _ => M.stuck) = _
      rw [h]
    rw [e']
    refine Sim.bindR he fun v => ?_
    rw [remD_map H h60]
    unfold oRem
    cases l.findIdx? fun y => decide (y = v) with
    | none => exact SimR.stuck
    | some j => exact SimR.ok rfl) hk
theorem sk_mov {sv : SV} {t : M ζ} (h : ρ[j]? = some (some sv)) (hc : (sv.isOwnB && !decide (i = j)) = true) (hk : SK R G r st ((ρ.set j none).set i (some sv)) t) : SK R G (.cons (.mov i j) r) st ρ t := by
  have e' : execS G (.mov i j) ρ = M.ok (Out.nx ((ρ.set j none).set i (some sv))) := by
    show (match ρ[j]? with
      | some (some sv) => if sv.isOwnB && !decide (i = j) then M.ok (Out.nx ((ρ.set j none).set i (some sv))) else M.stuck
      | _ => M.stuck) = _
    rw [h]
    dsimp only
    rw [if_pos hc]
  have : M.bind (execSs G (.cons (.mov i j) r) ρ) (runK G st) = M.bind (execSs G r ((ρ.set j none).set i (some sv))) (runK G st) := by
    show M.bind (M.bind (execS G (.mov i j) ρ) _) _ = _
    rw [e']; rfl
  rw [SK, this]; exact hk
theorem dputK_map [DecidableEq α] {n : Nat} (H : EqOK e1 n) (h : n ≤ 60) (x : α) (v : β) (l : List (α × β)) : dputK (e1 x) (l.map fun p => e1 p.1) = some ((if x ∈ l.map (·.1) then l.map fun p => if p.1 = x then (p.1, v) else p else l ++ [(x, v)]).map fun p => e1 p.1) := by
  unfold dputK
  rw [show (l.map fun p => e1 p.1) = (l.map (·.1)).map e1 by rw [List.map_map]; rfl, H.inD h]
  by_cases hx : x ∈ l.map (·.1)
  · rw [decide_eq_true hx, if_pos hx]
    dsimp only
    rw [List.map_map, List.map_map]
    congr 1
    refine List.map_congr_left fun p hp => ?_
    by_cases z : p.1 = x <;> simp [z]
  · rw [decide_eq_false hx, if_neg hx]
    dsimp only
    rw [List.map_append, List.map_map]; rfl
theorem dputV_map [DecidableEq α] {n : Nat} (H : EqOK e1 n) (h : n ≤ 60) (x : α) (v : β) (l : List (α × β)) : dputV (e1 x) (e2 v) (l.map fun p => e1 p.1) (l.map fun p => e2 p.2) = some ((if x ∈ l.map (·.1) then l.map fun p => if p.1 = x then (p.1, v) else p else l ++ [(x, v)]).map fun p => e2 p.2) := by
  unfold dputV
  rw [show inD (e1 x) (l.map fun p => e1 p.1) = _ by rw [show (l.map fun p => e1 p.1) = (l.map (·.1)).map e1 by rw [List.map_map]; rfl, H.inD h]]
  by_cases hx : x ∈ l.map (·.1)
  · rw [decide_eq_true hx, if_pos hx]
    dsimp only
    congr 1
    clear hx
    induction l with
    | nil => rfl
    | cons p l ih =>
      simp only [List.map_cons, List.zipWith_cons_cons]
      rw [ih, H.eq h]
      by_cases z : p.1 = x <;> simp [z]
  · rw [decide_eq_false hx, if_neg hx]
    dsimp only
    rw [List.map_append]; rfl
theorem sk_putD [DecidableEq α] {t : Bool} {n : Nat} (H : EqOK e1 n) (h60 : n ≤ 60) (hkey : ∀ x, keyOk t (e1 x) = true) {l : List (α × β)} {tv : M β} {tk : M α} {k : List (α × β) → M ζ} (h : ρ[i]? = some (some (.od t (l.map fun p => e1 p.1) (l.map fun p => e2 p.2)))) (he : Ev G false e ρ e2 tv) (hx : Ev G true kx ρ e1 tk)
    (hk : ∀ l' : List (α × β), SK R G r st (ρ.set i (some (.od t (l'.map fun p => e1 p.1) (l'.map fun p => e2 p.2)))) (k l')) : SK R G (.cons (.put i kx e) r) st ρ (M.bind (M.bind tv fun v => M.bind tk fun n => oDPut l n v) k) :=
  sk_step (f := fun l' => ρ.set i (some (.od t (l'.map fun p => e1 p.1) (l'.map fun p => e2 p.2)))) (by
    have e' : execS G (.put i kx e) ρ = M.bind (evalE G false e ρ) fun v => M.bind (evalE G true kx ρ) fun kk => (match putIx (.od t (l.map fun p => e1 p.1) (l.map fun p => e2 p.2)) kk v with | some sv' => M.ok (Out.nx (ρ.set i (some sv'))) | none => M.stuck) := by
      show (M.bind (evalE G false e ρ) fun v => (match ρ[i]? with
      | some (some (.d .st)) => M.bind (evalE G true kx ρ) fun kk => (fun rs => match rs, kk with
        | some l, D.int n => (match L2.ixN l.length n with | some j => .ok (.nx ρ) (some (l.set j v)) | none => Res.stuck)
        | _, _ => Res.stuck)
      | some (some (.d _)) => M.stuck
      | some (some sv) => M.bind (evalE G true kx ρ) fun kk => (match putIx sv kk v with | some sv' => M.ok (Out.nx (ρ.set i (some sv'))) | none => M.stuck)
      | _ => M.stuck)) = _
      rw [h]
    rw [e']
    refine Sim.bindR he fun v => Sim.bindR hx fun x => ?_
    unfold oDPut
    have e2' : putIx (.od t (l.map fun p => e1 p.1) (l.map fun p => e2 p.2)) (e1 x) (e2 v) = if l.length < lim then some (.od t ((if x ∈ l.map (·.1) then l.map fun p => if p.1 = x then (p.1, v) else p else l ++ [(x, v)]).map fun p => e1 p.1) ((if x ∈ l.map (·.1) then l.map fun p => if p.1 = x then (p.1, v) else p else l ++ [(x, v)]).map fun p => e2 p.2)) else none := by
      show (if keyOk t (e1 x) && decide ((l.map fun p => e1 p.1).length < lim) then (match dputK (e1 x) (l.map fun p => e1 p.1), dputV (e1 x) (e2 v) (l.map fun p => e1 p.1) (l.map fun p => e2 p.2) with
    | some ks', some vs' => some (SV.od t ks' vs')
    | _, _ => none) else none) = _
      rw [hkey, Bool.true_and, List.length_map, dputK_map H h60 x v, dputV_map H h60]
      by_cases hl : l.length < lim
      · rw [if_pos hl, if_pos (by simpa using hl)]
      · rw [if_neg hl, if_neg (by simpa using hl)]
    rw [e2']
    by_cases hl : l.length < lim
    · rw [if_pos hl, if_pos hl]
      exact SimR.ok rfl
    · rw [if_neg hl, if_neg hl]; exact SimR.stuck) hk
end
end Mp

set_option Elab.async false
set_option linter.all false
set_option maxRecDepth 100000
set_option maxHeartbeats 4000000
/-! Ty, part 6: own classes. -/
namespace Mp
open PySem
/-- without the register -/
def M.iso {α : Type} (m : M α) : M α := fun rs => match m none with
  | .ok a none => .ok a rs
  | _ => .stuck
theorem iso_ok {α : Type} (a : α) : M.iso (M.ok a) = M.ok a := rfl
def ssApp : Ss → Ss → Ss
  | .nil, t => t
  | .cons s r, t => .cons s (ssApp r t)
mutual
/-- no return in it -/
def noRet : S → Bool
  | .ret _ => false
  | .ret0 => false
  | .if_ _ a b => noRets a && noRets b
  | .while_ _ b => noRets b
  | .for_ _ _ b => noRets b
  | .try_ _ _ => false
  | _ => true
def noRets : Ss → Bool
  | .nil => true
  | .cons s r => noRet s && noRets r
end
/-- no value is handed back -/
def NR (m : M Out) : Prop := ∀ rs d r, m rs ≠ .ok (.ret d) r
theorem NR.bind {α : Type} {m : M α} {f : α → M Out} (h : ∀ a, NR (f a)) : NR (M.bind m f) := fun rs d r e => by
  unfold M.bind at e
  cases q : m rs with
  | ok a rs' => rw [q] at e; exact h a rs' d r e
  | exc c d rs' => rw [q] at e; cases e
  | stuck => rw [q] at e; cases e
theorem NR.ok {o : Out} (h : ∀ d, o ≠ .ret d) : NR (M.ok o) := fun rs d r e => by cases e; exact h d rfl
theorem NR.stuck : NR M.stuck := fun rs d r e => by cases e
theorem NR.fn {f : Rg → Res Out} (h : ∀ rs d r, f rs ≠ .ok (.ret d) r) : NR f := h
section
variable {G : Cfg}
theorem exec_app : ∀ (a t : Ss) (ρ : Env), execSs G (ssApp a t) ρ = M.bind (execSs G a ρ) (fun o => match o with
    | .nx ρ' => execSs G t ρ'
    | .ret d => .ok (.ret d)
    | .bk ρ' => .ok (.bk ρ')
    | .ct ρ' => .ok (.ct ρ'))
  | .nil, t, ρ => rfl
  | .cons s r, t, ρ => by
    show M.bind (execS G s ρ) _ = M.bind (M.bind (execS G s ρ) _) _
    rw [bind_assoc]
    congr 1
    funext o
    cases o with
    | nx ρ' => exact exec_app r t ρ'
    | ret d => rfl
    | bk ρ' => rfl
    | ct ρ' => rfl
theorem nr_loopF {f : D → Env → M Out} (h : ∀ d ρ, NR (f d ρ)) : ∀ (l : List D) (ρ : Env), NR (loopF f l ρ)
  | [], ρ => NR.ok fun d => by simp
  | x :: r, ρ => fun rs d rr e => by
    unfold loopF M.bind at e
    cases q : f x ρ rs with
    | ok o rs' =>
      rw [q] at e
      cases o with
      | nx ρ' => exact nr_loopF h r ρ' rs' d rr e
      | ct ρ' => exact nr_loopF h r ρ' rs' d rr e
      | bk ρ' => cases e
      | ret d' => exact h x ρ rs d' rs' q
    | exc c d rs' => rw [q] at e; cases e
    | stuck => rw [q] at e; cases e
theorem nr_loopW {c : Env → M D} {b : Env → M Out} (h : ∀ ρ, NR (b ρ)) : ∀ (n : Nat) (ρ : Env), NR (loopW c b n ρ)
  | 0, ρ => NR.stuck
  | n + 1, ρ => by
    unfold loopW
    refine NR.bind fun k => ?_
    cases k <;> first | exact NR.stuck | skip
    rename_i z
    cases z with
    | false => exact NR.ok fun d => by simp
    | true =>
      intro rs d rr e
      dsimp only at e
      unfold M.bind at e
      cases q : b ρ rs with
      | ok o rs' =>
        rw [q] at e
        cases o with
        | nx ρ' => exact nr_loopW h n ρ' rs' d rr e
        | ct ρ' => exact nr_loopW h n ρ' rs' d rr e
        | bk ρ' => cases e
        | ret d' => exact h ρ rs d' rs' q
      | exc c d rs' => rw [q] at e; cases e
      | stuck => rw [q] at e; cases e
mutual
theorem nr_S : ∀ (s : S) (ρ : Env), noRet s = true → NR (execS G s ρ)
  | .ret e, ρ, h => by cases h
  | .ret0, ρ, h => by cases h
  | .if_ c a b, ρ, h => by
    unfold noRet at h
    rw [Bool.and_eq_true] at h
    unfold execS
    refine NR.bind fun x => ?_
    cases x <;> first | exact NR.stuck | skip
    rename_i z
    cases z
    · exact nr_Ss b ρ h.2
    · exact nr_Ss a ρ h.1
  | .while_ c b, ρ, h => by
    unfold noRet at h
    unfold execS
    exact nr_loopW (fun ρ => nr_Ss b ρ h) _ _
  | .for_ xs it b, ρ, h => by
    unfold noRet at h
    unfold execS
    exact NR.bind fun ds => nr_loopF (fun d ρ => NR.bind fun ρ' => nr_Ss b ρ' h) _ _
  | .set i e, ρ, _ => by unfold execS; exact NR.bind fun x => NR.ok fun d => by simp
  | .own i e, ρ, _ => by
    unfold execS
    refine NR.bind fun x => ?_
    cases x <;> first | exact NR.stuck | exact NR.ok fun d => by simp
  | .un is e, ρ, _ => by
    unfold execS
    refine NR.bind fun x => ?_
    cases x <;> first | exact NR.stuck | skip
    dsimp only
    split
    · exact NR.ok fun d => by simp
    · exact NR.stuck
  | .swap i j a b, ρ, _ => by unfold execS; exact NR.bind fun x => NR.bind fun y => NR.ok fun d => by simp
  | .aug i op e, ρ, _ => by
    unfold execS
    split
    · exact NR.bind fun x => NR.bind fun y => NR.ok fun d => by simp
    · exact NR.stuck
  | .put i k e, ρ, _ => by
    unfold execS
    refine NR.bind fun v => ?_
    split
    · refine NR.bind fun kk => fun rs d r e => ?_
      split at e
      · split at e <;> cases e
      · cases e
    · exact NR.stuck
    · refine NR.bind fun kk => ?_
      split
      · exact NR.ok fun d => by simp
      · exact NR.stuck
    · exact NR.stuck
  | .app i e, ρ, _ => by
    unfold execS
    split
    · refine NR.bind fun v => ?_
      split
      · exact NR.ok fun d => by simp
      · exact NR.stuck
    · exact NR.stuck
  | .rem i e, ρ, _ => by
    unfold execS
    split
    · refine NR.bind fun v => ?_
      split
      · exact NR.ok fun d => by simp
      · exact NR.stuck
    · exact NR.stuck
  | .mov i j, ρ, _ => by
    unfold execS
    split
    · split
      · exact NR.ok fun d => by simp
      · exact NR.stuck
    · exact NR.stuck
  | .frz i, ρ, _ => by
    unfold execS
    split
    · exact NR.ok fun d => by simp
    · exact NR.ok fun d => by simp
    · exact NR.stuck
  | .drop e, ρ, _ => by unfold execS; exact NR.bind fun x => NR.ok fun d => by simp
  | .brk, ρ, _ => by unfold execS; exact NR.ok fun d => by simp
  | .cont, ρ, _ => by unfold execS; exact NR.ok fun d => by simp
  | .pass, ρ, _ => by unfold execS; exact NR.ok fun d => by simp
  | .try_ b hs, ρ, h => by unfold noRet at h; cases h
  | .raise c e, ρ, _ => by unfold execS; exact NR.bind fun x => fun rs d r e => by cases e
  | .never, ρ, _ => by unfold execS; exact NR.stuck
  | .augIx i k op e, ρ, _ => by
    unfold execS
    refine NR.bind fun kk => ?_
    split
    · refine NR.bind fun x => NR.bind fun y => NR.bind fun z => ?_
      split
      · exact NR.ok fun d => by simp
      · exact NR.stuck
    · exact NR.stuck
  | .ext i e, ρ, _ => by
    unfold execS
    split
    · refine NR.bind fun v => ?_
      split
      · split
        · exact NR.ok fun d => by simp
        · exact NR.stuck
      · exact NR.stuck
    · exact NR.stuck
  | .pop i, ρ, _ => by
    unfold execS
    split
    · split
      · exact NR.stuck
      · exact NR.ok fun d => by simp
    · exact NR.stuck
  | .appPop i j e, ρ, _ => by
    unfold execS
    split
    · refine NR.bind fun k => ?_
      split
      · split
        · split
          · split
            · exact NR.ok fun d => by simp
            · exact NR.stuck
          · exact NR.stuck
        · exact NR.stuck
      · exact NR.stuck
    · exact NR.stuck
  | .setPop i j e, ρ, _ => by
    unfold execS
    split
    · refine NR.bind fun k => ?_
      split
      · split
        · split
          · split
            · exact NR.ok fun d => by simp
            · exact NR.stuck
          · exact NR.stuck
        · exact NR.stuck
      · exact NR.stuck
    · exact NR.stuck
theorem nr_Ss : ∀ (s : Ss) (ρ : Env), noRets s = true → NR (execSs G s ρ)
  | .nil, ρ, _ => by unfold execSs; exact NR.ok fun d => by simp
  | .cons s r, ρ, h => by
    unfold noRets at h
    rw [Bool.and_eq_true] at h
    unfold execSs
    intro rs d rr e
    unfold M.bind at e
    cases q : execS G s ρ rs with
    | ok o rs' =>
      rw [q] at e
      cases o with
      | nx ρ' => exact nr_Ss r ρ' h.2 rs' d rr e
      | ct ρ' => cases e
      | bk ρ' => cases e
      | ret d' => exact nr_S s ρ h.1 rs d' rs' q
    | exc c d rs' => rw [q] at e; cases e
    | stuck => rw [q] at e; cases e
end
end
/-- the value that a whole __init__ is followed to: self, then the fields -/
def initBody (fn : Fn) : Ss := ssApp fn.body (.cons (.ret (.tup (.cons (.slot 0) fn.fs))) .nil)
theorem sim_init {α β : Type} {e1 : α → D} {e2 : β → D} {g : α → β} {T : Tab} {fuel k i : Nat} {fn : Fn} {args : List D} {t : M α} {ρ : Env} (h : T.fns[i]? = some fn) (h2 : fn.kd = 2) (hr : noRets fn.body = true) (hl : args.length + 1 = fn.ps) (hn : D.noSts args = true)
    (hρ : setD .st :: (args.map setD ++ List.replicate (fn.n - fn.ps) none) = ρ) (hb : SK (RF e1) (cfgOf T fuel k) (initBody fn) [] ρ t)
    (hf : ∀ a, ∃ ds, e1 a = .tup (.st :: ds) ∧ D.noSts ds = true ∧ e2 (g a) = .obj fn.c ds) : Sim e2 (callK T fuel (fun _ => none) (k + 2) i args) (M.iso (M.bind t fun a => M.ok (g a))) := by
  rw [callK_ev h, if_pos h2]
  have e1' : ∀ rs, runFn (cfgOf T fuel k) fn args rs = initK fn rs (fun ρ => M.nox (evalEs (cfgOf T fuel k) false fn.fs ρ)) (execSs (cfgOf T fuel k) fn.body ρ none) := fun rs => by
    have q : runFn (cfgOf T fuel k) fn args rs = (if args.length + 1 = fn.ps ∧ D.noSts args = true then initK fn rs (fun ρ => M.nox (evalEs (cfgOf T fuel k) false fn.fs ρ)) (execSs (cfgOf T fuel k) fn.body (setD .st :: (args.map setD ++ List.replicate (fn.n - fn.ps) none)) none) else .stuck) := congrFun (if_pos h2) rs
    rw [q, if_pos ⟨hl, hn⟩, hρ]
  have hb : SimR (RF e1) (M.bind (execSs (cfgOf T fuel k) (initBody fn) ρ) M.ok) t := hb
  rw [bind_okr] at hb
  intro rs
  have hb0 := hb none
  unfold M.iso M.bind
  cases q : t none with
  | exc c d r => exact True.intro
  | stuck => exact True.intro
  | ok a r =>
    rw [q] at hb0
    cases r with
    | some l => exact True.intro
    | none =>
      obtain ⟨o, ho, ha⟩ := hb0
      obtain ⟨ds, f1, f2, f3⟩ := hf a
      show runFn (cfgOf T fuel k) fn args rs = .ok (e2 (g a)) rs
      rw [e1']
      unfold initBody at ho
      rw [exec_app] at ho
      unfold M.bind at ho
      cases q2 : execSs (cfgOf T fuel k) fn.body ρ none with
      | exc c d r => rw [q2] at ho; cases ho
      | stuck => rw [q2] at ho; cases ho
      | ok o2 r2 =>
        rw [q2] at ho
        cases o2 with
        | ret d => exact absurd q2 (nr_Ss fn.body ρ hr none d r2)
        | bk ρ' => cases ho; exact ha.elim
        | ct ρ' => cases ho; exact ha.elim
        | nx ρ' =>
          have ho : M.bind (M.bind (M.bind (M.bind (evalE (cfgOf T fuel k) false (.slot 0) ρ') fun x => M.bind (evalEs (cfgOf T fuel k) false fn.fs ρ') fun xs => M.ok (x :: xs)) fun xs => if xs.length ≤ lim then M.ok (D.tup xs) else M.stuck) fun x => M.ok (Out.ret x)) (fun o => match o with
            | .nx ρ' => execSs (cfgOf T fuel k) .nil ρ'
            | .ret d => M.ok (.ret d)
            | .bk ρ' => M.ok (.bk ρ')
            | .ct ρ' => M.ok (.ct ρ')) r2 = .ok o none := ho
          obtain ⟨o1, r3, p1, p2⟩ := bind_inv ho
          obtain ⟨x1, r4, p3, p4⟩ := bind_inv p1
          cases p4
          cases p2
          obtain ⟨xs, r5, p5, p6⟩ := bind_inv p3
          obtain ⟨x0, r6, p7, p8⟩ := bind_inv p5
          obtain ⟨ys, r7, p9, p10⟩ := bind_inv p8
          cases p10
          split at p6
          case isFalse => cases p6
          case isTrue hlim =>
          cases p6
          have ha : D.tup (x0 :: ys) = e1 a := ha
          rw [f1] at ha
          cases ha
          have sl : ρ'[0]? = some (some (SV.d D.st)) ∧ r6 = r2 := by
            unfold evalE at p7
            cases hs : ρ'[0]? with
            | none => rw [hs] at p7; cases p7
            | some o =>
              rw [hs] at p7
              cases o with
              | none => cases p7
              | some v =>
                cases v with
                | d x => cases p7; exact ⟨rfl, rfl⟩
                | ol xs => cases p7
                | od t ks vs => cases p7
          obtain ⟨sl, rfl⟩ := sl
          unfold initK
          dsimp only
          rw [sl]
          dsimp only
          have p9' : M.nox (evalEs (cfgOf T fuel k) false fn.fs ρ') r6 = .ok ds none := by unfold M.nox; rw [p9]
          rw [p9']
          dsimp only
          rw [if_pos f2, f3]
end Mp

set_option Elab.async false
set_option linter.all false
set_option maxRecDepth 100000
set_option maxHeartbeats 4000000
/-! Ty, part 7: own classes: typed readings. -/
namespace Mp
open PySem
section
variable {G : Cfg} {pk : Bool} {ρ : Env} {α β γ δ ζ : Type} {e1 : α → D} {e2 : β → D} {e3 : γ → D} {e4 : δ → D} {g : ζ → D} {o a b c d' : E} {ta : M α} {tb : M β} {tc : M γ} {td : M δ}
/-- an instance of the class c, by its fields -/
def IsObj (c : Nat) (e : α → D) : Prop := ∀ x, ∃ fs, e x = .obj c fs
theorem ev_fld {cc f : Nat} {p : α → β} (hf : ∀ x, ∃ fs, e1 x = .obj cc fs ∧ fs[f]? = some (e2 (p x))) (ho : Ev G true o ρ e1 ta) : Ev G pk (.fld o cc f) ρ e2 (tB1 (fun x => M.ok (p x)) ta) :=
  Sim.bind (k := fun x => (match x with | .obj c' fs => if c' = cc then M.opt fs[f]? else .stuck | _ => .stuck)) ho fun x => by
    obtain ⟨fs, h1, h2⟩ := hf x
    rw [h1]
    show Sim e2 (if cc = cc then M.opt fs[f]? else .stuck) _
    rw [if_pos rfl, h2]
    exact Sim.ok
theorem ev_meth0 {cc f : Nat} {F : α → M ζ} (ob : IsObj cc e1) (hc : ∀ x, Sim g (G.call f [e1 x]) (F x)) (ho : Ev G true o ρ e1 ta) : Ev G pk (.meth cc f o .nil) ρ g (tB1 F ta) :=
  Sim.bind (k := fun x => (match x with | .obj c' fs => if c' = cc then M.bind (evalEs G false .nil ρ) fun xs => G.call f (.obj c' fs :: xs) else .stuck | _ => .stuck)) ho fun x => by
    obtain ⟨fs, h⟩ := ob x
    have hc := hc x
    rw [h] at hc ⊢
    show Sim g (if cc = cc then M.bind (evalEs G false .nil ρ) (fun xs => G.call f (D.obj cc fs :: xs)) else M.stuck) _
    rw [if_pos rfl]
    exact hc
theorem ev_meth1 {cc f : Nat} {F : α → β → M ζ} (ob : IsObj cc e1) (hc : ∀ x y, Sim g (G.call f [e1 x, e2 y]) (F x y)) (ho : Ev G true o ρ e1 ta) (hb : Ev G false b ρ e2 tb) : Ev G pk (.meth cc f o (.cons b .nil)) ρ g (tB2 F ta tb) :=
  Sim.bind (k := fun x => (match x with | .obj c' fs => if c' = cc then M.bind (evalEs G false (.cons b .nil) ρ) fun xs => G.call f (.obj c' fs :: xs) else .stuck | _ => .stuck)) ho fun x => by
    obtain ⟨fs, h⟩ := ob x
    have hc := hc x
    rw [h] at hc ⊢
    show Sim g (if cc = cc then M.bind (evalEs G false (.cons b .nil) ρ) (fun xs => G.call f (D.obj cc fs :: xs)) else M.stuck) _
    rw [if_pos rfl]
    refine Sim.congr (m := M.bind (evalE G false b ρ) fun y => G.call f [D.obj cc fs, y]) (Sim.bind hb fun y => hc y) ?_
    simp only [es0, es1, bind_assoc, bind_okl]
theorem ev_make1 {cc f : Nat} {F : α → M ζ} (hc : ∀ x, Sim g (G.call f [e1 x]) (F x)) (ha : Ev G false a ρ e1 ta) : Ev G pk (.make cc f (.cons a .nil)) ρ g (tB1 F ta) := by
  refine Sim.congr (m := M.bind (evalE G false a ρ) fun x => G.call f [x]) (Sim.bind ha fun x => hc x) ?_
  show M.bind (evalEs G false _ ρ) _ = _
  simp only [es0, es1, bind_assoc, bind_okl]
theorem ev_make3 {cc f : Nat} {F : α → β → γ → M ζ} (hc' : ∀ x y z, Sim g (G.call f [e1 x, e2 y, e3 z]) (F x y z)) (ha : Ev G false a ρ e1 ta) (hb : Ev G false b ρ e2 tb) (hc : Ev G false c ρ e3 tc) : Ev G pk (.make cc f (.cons a (.cons b (.cons c .nil)))) ρ g (tB3 F ta tb tc) := by
  refine Sim.congr (m := M.bind (evalE G false a ρ) fun x => M.bind (evalE G false b ρ) fun y => M.bind (evalE G false c ρ) fun z => G.call f [x, y, z]) (Sim.bind ha fun x => Sim.bind hb fun y => Sim.bind hc fun z => hc' x y z) ?_
  show M.bind (evalEs G false _ ρ) _ = _
  simp only [es0, es1, bind_assoc, bind_okl]
/-- without exceptions -/
theorem Sim.nox' {m : M D} {t : M α} (h : Sim e1 m t) : Sim e1 (M.nox m) (M.nox t) := fun rs => by
  have q := h rs
  unfold M.nox
  cases e : t rs with
  | ok a r => rw [e] at q; dsimp only at q ⊢; rw [q]
  | exc c d r => exact True.intro
  | stuck => exact True.intro
theorem ev_oeq {cc f : Nat} {F : α → β → M Bool} (ob : IsObj cc e1) (ht : ∀ y, eqTy cc (e2 y) = true) (hc : ∀ x y, Sim D.bl (G.call f [e1 x, e2 y]) (F x y)) (ha : Ev G true a ρ e1 ta) (hb : Ev G false b ρ e2 tb) : Ev G pk (.oeq cc f a b) ρ D.bl (tB2 (fun x y => M.nox (F x y)) ta tb) :=
  Sim.bind (k := fun x => M.bind (evalE G false b ρ) fun y => (match x with
      | .obj c' fs => if c' = cc ∧ eqTy cc y = true then M.bind (M.nox (G.call f [.obj c' fs, y])) fun z => (match z with | D.bl k => M.ok (D.bl k) | _ => M.stuck) else .stuck
      | _ => .stuck)) ha fun x => Sim.bind hb fun y => by
    obtain ⟨fs, h⟩ := ob x
    have hc := hc x y
    rw [h] at hc ⊢
    show Sim D.bl (if cc = cc ∧ eqTy cc (e2 y) = true then M.bind (M.nox (G.call f [.obj cc fs, e2 y])) (fun z => (match z with | D.bl k => M.ok (D.bl k) | _ => M.stuck)) else M.stuck) _
    rw [if_pos ⟨rfl, ht y⟩]
    intro rs
    have q := Sim.nox' hc rs
    dsimp only
    cases e : M.nox (F x y) rs with
    | ok z r =>
      rw [e] at q
      show M.bind _ _ rs = _
      unfold M.bind
      rw [show M.nox (G.call f [.obj cc fs, e2 y]) rs = .ok (D.bl z) r from q]; rfl
    | exc c d r =>
      rw [e] at q
      show M.bind _ _ rs = _
      unfold M.bind
      rw [show M.nox (G.call f [.obj cc fs, e2 y]) rs = .exc c d r from q]
    | stuck => exact True.intro
theorem ev_ostr {cc f : Nat} {F : α → M Str} (ob : IsObj cc e1) (hc : ∀ x, Sim D.str (G.call f [e1 x]) (F x)) (ha : Ev G true a ρ e1 ta) : Ev G pk (.ostr cc f a) ρ D.str (tB1 (fun x => M.nox (F x)) ta) :=
  Sim.bind (k := fun x => (match x with
      | .obj c' fs => if c' = cc then M.bind (M.nox (G.call f [.obj c' fs])) fun z => (match z with | D.str k => M.ok (D.str k) | _ => M.stuck) else .stuck
      | _ => .stuck)) ha fun x => by
    obtain ⟨fs, h⟩ := ob x
    have hc := hc x
    rw [h] at hc ⊢
    show Sim D.str (if cc = cc then M.bind (M.nox (G.call f [.obj cc fs])) (fun z => (match z with | D.str k => M.ok (D.str k) | _ => M.stuck)) else M.stuck) _
    rw [if_pos rfl]
    intro rs
    have q := Sim.nox' hc rs
    cases e : M.nox (F x) rs with
    | ok z r =>
      rw [e] at q
      show M.bind _ _ rs = _
      unfold M.bind
      rw [show M.nox (G.call f [.obj cc fs]) rs = .ok (D.str z) r from q]; rfl
    | exc c d r =>
      rw [e] at q
      show M.bind _ _ rs = _
      unfold M.bind
      rw [show M.nox (G.call f [.obj cc fs]) rs = .exc c d r from q]
    | stuck => exact True.intro
end
end Mp

set_option Elab.async false
set_option linter.all false
set_option maxRecDepth 100000
set_option maxHeartbeats 4000000
/-! Ty, part 8: raise, try. -/
namespace Mp
open PySem
def RTy {β : Type} (enc : β → D) (ρ : Env) : Option β → Out → Prop
  | none, o => o = .nx ρ
  | some b, o => o = .ret (enc b)
def RN (ρ : Env) : Unit → Out → Prop := fun _ o => o = .nx ρ
def RV {σ : Type} (f : σ → Env) : σ → Out → Prop := fun s o => o = .nx (f s)
def tTry {β : Type} (tb : M β) (hh : Nat → D → M β) : M β := fun rs =>
  match tb rs with
  | .ok a rs' => .ok a rs'
  | .exc c d rs' => hh c d rs'
  | .stuck => .stuck
def tTryS {σ : Type} (tb : M Unit) (s0 : σ) (hh : Nat → D → M σ) : M σ := fun rs =>
  match tb rs with
  | .ok _ rs' => .ok s0 rs'
  | .exc c d rs' => hh c d rs'
  | .stuck => .stuck
def tOut {β ζ : Type} (k : M ζ) (inj : β → ζ) : Option β → M ζ
  | none => k
  | some b => M.ok (inj b)
/-- the field of an error -/
def xStr (k c : Nat) (d : D) : Option Str := if k = c then (match d with | .str s => some s | _ => none) else none
def xInt (k c : Nat) (d : D) : Option Int := if k = c then (match d with | .int s => some s | _ => none) else none
theorem xStr_ok {k c : Nat} {d : D} : ∀ v, xStr k c d = some v → evalX (.fld k) c d = some (.str v) := fun v h => by
  unfold xStr at h
  split at h
  · rename_i hk
    split at h
    · cases h; exact if_pos hk
    · cases h
  · cases h
theorem xInt_ok {k c : Nat} {d : D} : ∀ v, xInt k c d = some v → evalX (.fld k) c d = some (.int v) := fun v h => by
  unfold xInt at h
  split at h
  · rename_i hk
    split at h
    · cases h; exact if_pos hk
    · cases h
  · cases h
theorem xk_str {c : Nat} {d : D} {s : Str} : ∀ v : Str, some s = some v → evalX (.str s) c d = some (.str v) := fun v h => by cases h; rfl
theorem xk_int {c : Nat} {d : D} {s : Int} : ∀ v : Int, some s = some v → evalX (.int s) c d = some (.int v) := fun v h => by cases h; rfl
theorem xk_bl {c : Nat} {d : D} {s : Bool} : ∀ v : Bool, some s = some v → evalX (.bl s) c d = some (.bl v) := fun v h => by cases h; rfl
def xPair {α β : Type} (a : Option α) (b : Option β) : Option (α × β) := match a, b with | some x, some y => some (x, y) | _, _ => none
theorem xPair_ok {α β : Type} {e : α → D} {f : β → D} {c : Nat} {d : D} {x y : XE} {a : Option α} {b : Option β} (h1 : ∀ v, a = some v → evalX x c d = some (e v)) (h2 : ∀ v, b = some v → evalX y c d = some (f v)) : ∀ v, xPair a b = some v → evalX (.pair x y) c d = some (eP2 e f v) := fun v h => by
  unfold xPair at h
  split at h
  · rename_i u w
    cases h
    show (match evalX x c d, evalX y c d with | some x, some y => some (D.tup [x, y]) | _, _ => none) = _
    rw [h1 u rfl, h2 w rfl]
  · cases h
/-- the field == a text -/
def xEqs (k c : Nat) (d : D) (s : Str) : Option Bool := (xStr k c d).map fun t => decide (t = s)
theorem xEqs_ok {k c : Nat} {d : D} {s : Str} : ∀ v, xEqs k c d s = some v → evalX (.eqs k s) c d = some (.bl v) := fun v h => by
  unfold xEqs at h
  cases e : xStr k c d with
  | none => rw [e] at h; cases h
  | some t =>
    rw [e] at h
    cases h
    have q := xStr_ok t e
    have hk : k = c := by
      unfold xStr at e
      split at e
      · assumption
      · cases e
    have q : (if k = c then some d else none) = some (D.str t) := q
    rw [if_pos hk] at q
    cases q
    show (if k = c then (evalCmp .eq (.str t) (.str s)).map D.bl else none) = _
    rw [if_pos hk]
    have H := eq_str.eq (by decide) t s
    show (D.eq (.str t) (.str s)).map D.bl = _
    rw [H]
    rfl
section
variable {α β ζ σ : Type} {R : ζ → Out → Prop} {G : Cfg} {e : E} {e1 : α → D} {ρ : Env} {te : M α} {r : Ss} {st : List Ss} {b : Ss} {hs : List Hd} {enc : β → D} {c : Nat} {d : D}
theorem sk_raise {k : Nat} (he : Ev G false e ρ e1 te) : SK R G (.cons (.raise k e) r) st ρ (M.bind te fun x => M.exc k (e1 x)) := by
  have : M.bind (execSs G (.cons (.raise k e) r) ρ) (runK G st) = M.bind (evalE G false e ρ) fun x => M.exc k x := by
    show M.bind (M.bind (M.bind (evalE G false e ρ) fun x => M.exc k x) _) _ = _
    rw [bind_assoc, bind_assoc]
    congr 1
  rw [SK, this]
  exact Sim.bindR he fun x => SimR.exc
theorem try_sim {γ : Type} {Q : γ → Out → Prop} {m : M Out} {t : M γ} {hh : Nat → D → M γ} (h : SimR Q m t) (hhs : ∀ c d, SimR Q (handleH hs c d ρ) (hh c d)) : SimR Q (tryM m hs ρ) (tTry t hh) := fun rs => by
  have h := h rs
  unfold tTry tryM
  cases e : t rs with
  | ok a rs' => rw [e] at h; obtain ⟨b, h1, h2⟩ := h; dsimp only; rw [h1]; exact ⟨b, rfl, h2⟩
  | exc c d rs' => rw [e] at h; dsimp only at h ⊢; rw [h]; exact hhs c d rs'
  | stuck => exact True.intro
theorem try_simS {Q : σ → Out → Prop} {s0 : σ} {m : M Out} {t : M Unit} {hh : Nat → D → M σ} (h : SimR (RN ρ) m t) (h0 : Q s0 (.nx ρ)) (hhs : ∀ c d, SimR Q (handleH hs c d ρ) (hh c d)) : SimR Q (tryM m hs ρ) (tTryS t s0 hh) := fun rs => by
  have h := h rs
  unfold tTryS tryM
  cases e : t rs with
  | ok a rs' =>
    rw [e] at h
    obtain ⟨b, h1, h2⟩ := h
    have h2 : b = .nx ρ := h2
    subst h2
    dsimp only
    rw [h1]
    exact ⟨_, rfl, h0⟩
  | exc c d rs' => rw [e] at h; dsimp only at h ⊢; rw [h]; exact hhs c d rs'
  | stuck => exact True.intro
theorem hd_nil {γ : Type} {Q : γ → Out → Prop} : SimR Q (handleH [] c d ρ) (M.exc c d) := SimR.exc
theorem hd_ret {i : Option Nat} {cc : Nat} {x : XE} {tx : Option β} {t' : M (Option β)} (hx : ∀ v, tx = some v → evalX x c d = some (enc v)) (h : SimR (RTy enc ρ) (handleH hs c d ρ) t') :
    SimR (RTy enc ρ) (handleH (⟨cc, i, .ret x⟩ :: hs) c d ρ) (if xsub c cc then M.bind (M.opt tx) (fun v => M.ok (some v)) else t') := by
  unfold handleH
  cases hb : xsub c cc with
  | false => exact h
  | true =>
    cases tx with
    | none => exact fun rs => True.intro
    | some v =>
      show SimR _ (M.bind (M.opt (evalX x c d)) fun v => M.ok (Out.ret v)) (M.ok (some v))
      rw [hx v rfl]
      exact SimR.ok rfl
theorem hd_app {i : Option Nat} {cc j : Nat} {x : XE} {tx : Option α} {l : List α} {t' : M (List α)} (ho : offE ρ i = ρ) (hj : ρ[j]? = some (some (.ol (l.map e1)))) (hx : ∀ v, tx = some v → evalX x c d = some (e1 v))
    (h : SimR (RV fun l' : List α => ρ.set j (some (.ol (l'.map e1)))) (handleH hs c d ρ) t') :
    SimR (RV fun l' : List α => ρ.set j (some (.ol (l'.map e1)))) (handleH (⟨cc, i, .app j x⟩ :: hs) c d ρ) (if xsub c cc then M.bind (M.opt tx) (oApp l) else t') := by
  unfold handleH
  cases hb : xsub c cc with
  | false => exact h
  | true =>
    cases tx with
    | none => exact fun rs => True.intro
    | some v =>
      show SimR _ (execSu (.app j x) c d (offE ρ i)) (oApp l v)
      rw [ho]
      dsimp only [execSu]
      rw [hj]
      dsimp only
      rw [hx v rfl]
      unfold oApp
      show SimR _ (if (l.map e1).length < lim then M.ok (Out.nx (ρ.set j (some (.ol (l.map e1 ++ [e1 v]))))) else M.stuck) _
      rw [List.length_map]
      split
      · exact SimR.ok (by unfold RV; dsimp only; rw [List.map_append]; rfl)
      · exact SimR.stuck
theorem hd_inc {i : Option Nat} {cc j : Nat} {n y : Int} {t' : M Int} (ho : offE ρ i = ρ) (hj : ρ[j]? = some (some (.d (.int y)))) (h : SimR (RV fun z : Int => ρ.set j (some (.d (.int z)))) (handleH hs c d ρ) t') :
    SimR (RV fun z : Int => ρ.set j (some (.d (.int z)))) (handleH (⟨cc, i, .inc j n⟩ :: hs) c d ρ) (if xsub c cc then M.ok (y + n) else t') := by
  unfold handleH
  cases hb : xsub c cc with
  | false => exact h
  | true =>
    show SimR _ (execSu (.inc j n) c d (offE ρ i)) (M.ok (y + n))
    rw [ho]
    dsimp only [execSu]
    rw [hj]
    exact SimR.ok rfl
theorem sk_tryR {tb : M (Option β)} {hh : Nat → D → M (Option β)} {k : M ζ} {inj : β → ζ} (hb : SK (RTy enc ρ) G b [] ρ tb) (hhs : ∀ c d, SimR (RTy enc ρ) (handleH hs c d ρ) (hh c d)) (hR : ∀ x, R (inj x) (.ret (enc x))) (hk : SK R G r st ρ k) :
    SK R G (.cons (.try_ b hs) r) st ρ (M.bind (tTry tb hh) (tOut k inj)) := by
  have e : M.bind (execSs G (.cons (.try_ b hs) r) ρ) (runK G st) = M.bind (tryM (execSs G b ρ) hs ρ) fun o => M.bind (match o with
    | .nx ρ' => execSs G r ρ'
    | .ret d => M.ok (Out.ret d)
    | .bk ρ' => M.ok (Out.bk ρ')
    | .ct ρ' => M.ok (Out.ct ρ')) (runK G st) := bind_assoc _ _ _
  rw [SK, e]
  have hb' : SimR (RTy enc ρ) (M.bind (execSs G b ρ) (runK G [])) tb := hb
  rw [runK_nil, bind_okr] at hb'
  refine SimR.bind (try_sim hb' hhs) fun a o ho => ?_
  cases a with
  | none =>
    have ho : o = .nx ρ := ho
    subst ho
    exact hk
  | some x =>
    have ho : o = .ret (enc x) := ho
    subst ho
    show SimR R (M.bind (M.ok (Out.ret (enc x))) (runK G st)) (M.ok (inj x))
    rw [bind_okl, ret_run]
    exact SimR.ok (hR x)
theorem sk_tryS {tb : M Unit} {s0 : σ} {f : σ → Env} {hh : Nat → D → M σ} {k : σ → M ζ} (h0 : f s0 = ρ) (hb : SK (RN ρ) G b [] ρ tb) (hhs : ∀ c d, SimR (RV f) (handleH hs c d ρ) (hh c d)) (hk : ∀ s, SK R G r st (f s) (k s)) :
    SK R G (.cons (.try_ b hs) r) st ρ (M.bind (tTryS tb s0 hh) k) := by
  have e : M.bind (execSs G (.cons (.try_ b hs) r) ρ) (runK G st) = M.bind (tryM (execSs G b ρ) hs ρ) fun o => M.bind (match o with
    | .nx ρ' => execSs G r ρ'
    | .ret d => M.ok (Out.ret d)
    | .bk ρ' => M.ok (Out.bk ρ')
    | .ct ρ' => M.ok (Out.ct ρ')) (runK G st) := bind_assoc _ _ _
  rw [SK, e]
  have hb' : SimR (RN ρ) (M.bind (execSs G b ρ) (runK G [])) tb := hb
  rw [runK_nil, bind_okr] at hb'
  refine SimR.bind (try_simS (Q := RV f) hb' (by unfold RV; rw [h0]) hhs) fun a o ho => ?_
  have ho : o = .nx (f a) := ho
  subst ho
  exact hk a
end
end Mp

set_option Elab.async false
set_option linter.all false
set_option maxRecDepth 100000
set_option maxHeartbeats 4000000
/-! Ty, part 9: data of any kind, one of two kinds. -/
namespace Mp
open PySem
def eW {α β : Type} (e : α → D) (f : β → D) : α ⊕ β → D
  | .inl a => e a
  | .inr b => f b
def tInl {α : Type} (β : Type) (t : M α) : M (α ⊕ β) := M.bind t fun a => M.ok (.inl a)
def tInr (α : Type) {β : Type} (t : M β) : M (α ⊕ β) := M.bind t fun a => M.ok (.inr a)
def tDynT {α : Type} (e : α → D) (t : M (List α)) : M (List D) := M.bind t fun l => M.ok (l.map e)
def decI : D → Option Int
  | .int i => some i
  | _ => none
def decTI : D → Option (List Int)
  | .tup ds => unI ds
  | _ => none
def decTD : D → Option (List D)
  | .tup ds => some ds
  | _ => none
theorem decI_ok : ∀ (d : D) x, decI d = some x → d = D.int x := fun d x h => by
  unfold decI at h
  split at h
  · cases h; rfl
  · cases h
theorem unI_back : ∀ (ds : List D) (x : List Int), unI ds = some x → ds = x.map D.int
  | [], x, h => by cases h; rfl
  | d :: r, x, h => by
    unfold unI at h
    cases d <;> first | cases h | skip
    rename_i i
    dsimp only at h
    split at h
    · rename_i l hl
      cases h
      rw [unI_back r l hl]
      rfl
    · cases h
theorem decTI_ok : ∀ (d : D) x, decTI d = some x → d = eT D.int x := fun d x h => by
  unfold decTI at h
  split at h
  · rename_i ds
    rw [unI_back ds x h]
  · cases h
theorem decTD_ok : ∀ (d : D) x, decTD d = some x → d = eT id x := fun d x h => by
  unfold decTD at h
  split at h
  · cases h
    show D.tup _ = D.tup _
    rw [List.map_id]
  · cases h
section
variable {α β γ δ : Type} {e1 : α → D} {e2 : β → D} {G : Cfg} {pk : Bool} {ρ : Env} {a b : E} {ta : M α} {tb : M β} {n m : Nat}
theorem ev_inl (h : Ev G pk a ρ e1 ta) : Ev G pk a ρ (eW e1 e2) (tInl β ta) := by
  have := Sim.bind (g := eW e1 e2) (k := fun x => M.ok x) (u := fun x => M.ok (Sum.inl x)) h fun x => Sim.ok' rfl
  rw [bind_okr] at this; exact this
theorem ev_inr (h : Ev G pk b ρ e2 tb) : Ev G pk b ρ (eW e1 e2) (tInr α tb) := by
  have := Sim.bind (g := eW e1 e2) (k := fun x => M.ok x) (u := fun x => M.ok (Sum.inr x)) h fun x => Sim.ok' rfl
  rw [bind_okr] at this; exact this
theorem ev_dynT {t : M (List α)} (h : Ev G pk a ρ (eT e1) t) : Ev G pk a ρ (eT id) (tDynT e1 t) := by
  have := Sim.bind (g := eT id) (k := fun x => M.ok x) (u := fun x => M.ok (x.map e1)) h fun x => Sim.ok' (by show D.tup _ = D.tup _; rw [List.map_id])
  rw [bind_okr] at this; exact this
theorem eq_W [DecidableEq α] [DecidableEq β] (H : EqOK e1 n) (J : EqOK e2 n) (hn : ∀ a b q r, (e1 a).py = some q → (e2 b).py = some r → PyData.eqv q r = false ∧ PyData.eqv r q = false) : EqOK (eW e1 e2) n := by
  obtain ⟨q, h1, h2, h3⟩ := H
  obtain ⟨r, i1, i2, i3⟩ := J
  refine ⟨fun x => match x with | .inl a => q a | .inr b => r b, fun x => ?_, fun x => ?_, fun x y => ?_⟩
  · cases x with
    | inl a => exact h1 a
    | inr b => exact i1 b
  · cases x with
    | inl a => exact h2 a
    | inr b => exact i2 b
  · cases x with
    | inl a =>
      cases y with
      | inl b => show PyData.eqv (q a) (q b) = _; rw [h3]; by_cases z : a = b <;> simp [z]
      | inr b => exact (hn a b _ _ (h1 a) (i1 b)).1
    | inr a =>
      cases y with
      | inl b => exact (hn b a _ _ (h1 b) (i1 a)).2
      | inr b => show PyData.eqv (r a) (r b) = _; rw [i3]; by_cases z : a = b <;> simp [z]
theorem nw_TS {γ : Type} {e : γ → D} : ∀ (a : List γ) (b : Str) q r, (eT e a).py = some q → (D.str b).py = some r → PyData.eqv q r = false ∧ PyData.eqv r q = false := fun a b q r h1 h2 => by
  cases h2
  have h1 : (match D.pys (a.map e) with | some l => some (PyData.tuple l) | none => none) = some q := by
    first
      | exact h1
      | (have z := h1; unfold D.py at z; exact z)
  cases z : D.pys (a.map e) with
  | none => rw [z] at h1; cases h1
  | some l => rw [z] at h1; cases h1; exact ⟨rfl, rfl⟩
/-- what an error tells, as one of two kinds -/
theorem xk_map {c : Nat} {d : D} {x : XE} {o : Option α} {g : β → D} {f : α → β} (h : ∀ v, o = some v → evalX x c d = some (e1 v)) (hf : ∀ v, e1 v = g (f v)) : ∀ v, o.map f = some v → evalX x c d = some (g v) := fun v z => by
  cases o with
  | none => cases z
  | some u => cases z; rw [h u rfl, hf]
theorem f_sumT (x : List Int) : Sim D.int (fun rs => M.opt (biM rs .sum [eT D.int x]) rs) (oSum x) := opt_ok (by show (unI (dI x)).map _ = _; rw [unI_dI]; rfl)
end
end Mp

set_option Elab.async false
set_option linter.all false
set_option maxRecDepth 100000
set_option maxHeartbeats 4000000
/-! Nf, part 1: normal forms of typed functions. -/
namespace Mp
open PySem
theorem law_run {G : Cfg} {b : Ss} {ρ : Env} {t : M Bool} {rs rs' : Rg} (h : SK (RF D.bl) G b [] ρ t) (e : t rs = .ok true rs') : execSs G b ρ rs = .ok (.ret (.bl true)) rs' := by
  have h : SimR (RF D.bl) (M.bind (execSs G b ρ) M.ok) t := h
  rw [bind_okr] at h
  have h := h rs
  rw [e] at h
  obtain ⟨o, h1, h2⟩ := h
  cases o with
  | ret d => have h2 : d = D.bl true := h2; rw [h1, h2]
  | nx ρ => cases h2
  | bk ρ => exact h2.elim
  | ct ρ => exact h2.elim
section
variable {α β γ δ σ : Type}
@[simp] theorem nf_bind (a : α) (f : α → M β) : M.bind (M.ok a) f = f a := (rfl)
@[simp] theorem nf_B1 (a : α) (f : α → M β) : tB1 f (M.ok a) = f a := (rfl)
@[simp] theorem nf_B2 (a : α) (b : β) (f : α → β → M γ) : tB2 f (M.ok a) (M.ok b) = f a b := (rfl)
@[simp] theorem nf_B3 (a : α) (b : β) (c : γ) (f : α → β → γ → M δ) : tB3 f (M.ok a) (M.ok b) (M.ok c) = f a b c := (rfl)
@[simp] theorem nf_B4 {ε : Type} (a : α) (b : β) (c : γ) (d : δ) (f : α → β → γ → δ → M ε) : tB4 f (M.ok a) (M.ok b) (M.ok c) (M.ok d) = f a b c d := (rfl)
@[simp] theorem nf_B5 {ε ζ : Type} (a : α) (b : β) (c : γ) (d : δ) (e : ε) (f : α → β → γ → δ → ε → M ζ) : tB5 f (M.ok a) (M.ok b) (M.ok c) (M.ok d) (M.ok e) = f a b c d e := (rfl)
@[simp] theorem nf_add (x y : Int) : oAdd x y = M.ok (x + y) := (rfl)
@[simp] theorem nf_sub (x y : Int) : oSub x y = M.ok (x - y) := (rfl)
@[simp] theorem nf_neg (x : Int) : oNeg x = M.ok (-x) := (rfl)
@[simp] theorem nf_not (x : Bool) : oNot x = M.ok (!x) := (rfl)
@[simp] theorem nf_lt (x y : Int) : oLt x y = M.ok (decide (x < y)) := (rfl)
@[simp] theorem nf_le (x y : Int) : oLe x y = M.ok (decide (x ≤ y)) := (rfl)
@[simp] theorem nf_gt (x y : Int) : oGt x y = M.ok (decide (y < x)) := (rfl)
@[simp] theorem nf_ge (x y : Int) : oGe x y = M.ok (decide (y ≤ x)) := (rfl)
@[simp] theorem nf_eq [DecidableEq α] (x y : α) : oEq x y = M.ok (decide (x = y)) := (rfl)
@[simp] theorem nf_ne [DecidableEq α] (x y : α) : oNe x y = M.ok (!decide (x = y)) := (rfl)
@[simp] theorem nf_in [DecidableEq α] (x : α) (l : List α) : oIn x l = M.ok (decide (x ∈ l)) := (rfl)
@[simp] theorem nf_nin [DecidableEq α] (x : α) (l : List α) : oNin x l = M.ok (!decide (x ∈ l)) := (rfl)
@[simp] theorem nf_len (l : List α) : oLen l = M.ok (l.length : Int) := (rfl)
@[simp] theorem nf_abs (x : Int) : oAbs x = M.ok (if x < 0 then -x else x) := (rfl)
@[simp] theorem nf_b2i (x : Bool) : oB2i x = M.ok (if x then 1 else 0) := (rfl)
@[simp] theorem nf_sum (l : List Int) : oSum l = M.ok l.sum := (rfl)
@[simp] theorem nf_max2 (i j : Int) : oMax2 i j = M.ok (if j > i then j else i) := (rfl)
@[simp] theorem nf_min2 (i j : Int) : oMin2 i j = M.ok (if j < i then j else i) := (rfl)
@[simp] theorem nf_rev (l : List α) : oRev l = M.ok l.reverse := (rfl)
@[simp] theorem nf_cut (l : List α) (a b : Option Int) : oCut l a b = M.ok (cutL l a b) := (rfl)
@[simp] theorem nf_keys (l : List (α × β)) : oKeys l = M.ok (l.map (·.1)) := (rfl)
@[simp] theorem nf_all (l : List Bool) : oAll l = M.ok (l.all id) := (rfl)
@[simp] theorem nf_any (l : List Bool) : oAny l = M.ok (l.any id) := (rfl)
@[simp] theorem nf_isN (x : Option α) (u : Unit) : oIsN x u = M.ok x.isNone := (rfl)
@[simp] theorem nf_isnN (x : Option α) (u : Unit) : oIsnN x u = M.ok (!x.isNone) := (rfl)
@[simp] theorem nf_ltG (lt : α → α → Bool) (x y : α) : oLtG lt x y = M.ok (lt x y) := (rfl)
@[simp] theorem nf_opt (a : α) : M.opt (some a) = M.ok a := (rfl)
@[simp] theorem nf_nox (a : α) : M.nox (M.ok a) = M.ok a := (rfl)
@[simp] theorem nf_if (z : Bool) (a b : M α) : tIf (M.ok z) a b = if z then a else b := (rfl)
@[simp] theorem nf_and (z : Bool) (b : M Bool) : tAnd (M.ok z) b = if z then b else M.ok false := (rfl)
@[simp] theorem nf_or (z : Bool) (b : M Bool) : tOr (M.ok z) b = if z then M.ok true else b := (rfl)
@[simp] theorem nf_some (a : α) : tSome (M.ok a) = M.ok (some a) := (rfl)
@[simp] theorem nf_dyn (e : α → D) (a : α) : tDyn e (M.ok a) = M.ok (e a) := (rfl)
@[simp] theorem nf_sl (f : α → Option Int → Option Int → M β) (a : α) (l h : Option Int) : tSl f (M.ok a) (M.ok l) (M.ok h) = f a l h := (rfl)
@[simp] theorem nf_lo0 : tListOf ([] : List (M α)) = M.ok [] := (rfl)
theorem nf_lo1 (a : α) (r : List (M α)) {l : List α} (h : tListOf r = M.ok l) : tListOf (M.ok a :: r) = M.ok (a :: l) := by
  show M.bind (M.ok a) (fun y => M.bind (tListOf r) fun ys => M.ok (y :: ys)) = _
  rw [h]; rfl
@[simp] theorem nf_d0 : tDisp ([] : List (M α)) = M.ok [] := (rfl)
@[simp] theorem nf_d1 (a : α) : tDisp [M.ok a] = M.ok [a] := (rfl)
@[simp] theorem nf_d2 (a b : α) : tDisp [M.ok a, M.ok b] = M.ok [a, b] := (rfl)
@[simp] theorem nf_d3 (a b c : α) : tDisp [M.ok a, M.ok b, M.ok c] = M.ok [a, b, c] := (rfl)
@[simp] theorem nf_d4 (a b c d : α) : tDisp [M.ok a, M.ok b, M.ok c, M.ok d] = M.ok [a, b, c, d] := (rfl)
@[simp] theorem nf_d5 (a b c d e : α) : tDisp [M.ok a, M.ok b, M.ok c, M.ok d, M.ok e] = M.ok [a, b, c, d, e] := (rfl)
@[simp] theorem nf_d6 (a b c d e f : α) : tDisp [M.ok a, M.ok b, M.ok c, M.ok d, M.ok e, M.ok f] = M.ok [a, b, c, d, e, f] := (rfl)
theorem nf_mul {x y : Int} (h : small x = true ∨ small y = true) : oMul x y = M.ok (x * y) := by unfold oMul; rw [if_pos (by simpa using h)]
theorem nf_mod {x y : Int} (h : y ≠ 0) : oMod x y = M.ok (x.fmod y) := by unfold oMod; rw [if_pos h]
theorem nf_div {x y : Int} (h : y ≠ 0) (h2 : y.natAbs < 1073741824) : oDiv x y = M.ok (x.fdiv y) := by unfold oDiv; rw [if_pos ⟨h, h2⟩]
theorem nf_cat {x y : List α} (h : x.length + y.length ≤ lim) : oCat x y = M.ok (x ++ y) := by unfold oCat; rw [if_pos h]
theorem nf_rep {x : List α} {k : Nat} (h : k ≤ 1000) (h2 : x.length ≤ 1000) : oRep x (k : Int) = M.ok (List.replicate k x).flatten := by
  unfold oRep; rw [if_pos ⟨by omega, by omega, h2⟩]; simp
theorem nf_ix {l : List α} {k : Nat} {x : α} (h : l[k]? = some x) : oIx l (k : Int) = M.ok x := by unfold oIx; rw [L2.atI_nat h]; rfl
theorem nf_ix0 {a : α} {l : List α} : oIx (a :: l) 0 = M.ok a := nf_ix (k := 0) rfl
theorem small_of {x : Int} (h : -1000000000000000000 < x) (h2 : x < 1000000000000000000) : small x = true := by unfold small; rw [decide_eq_true_eq]; omega
theorem small62_of {x : Int} (h : -1000000000000000000 < x) (h2 : x < 1000000000000000000) : small62 x = true := by unfold small62; rw [decide_eq_true_eq]; omega
theorem nf_rng1 {n : Nat} (h : n ≤ 1000000) : oRng1 (n : Int) = M.ok ((List.range n).map fun (k : Nat) => (k : Int)) := by
  unfold oRng1; rw [if_pos (small62_of (by omega) (by omega))]; simp
theorem nf_rng1' {i : Int} (h : i ≤ 1000000) (h0 : -1000000 ≤ i) : oRng1 i = M.ok ((List.range i.toNat).map fun (k : Nat) => (k : Int)) := by
  unfold oRng1; rw [if_pos (small62_of (by omega) (by omega))]
theorem nf_rng2 {i j : Int} (h : -1000000 ≤ i) (h1 : i ≤ 1000000) (h2 : -1000000 ≤ j) (h3 : j ≤ 1000000) : oRng2 i j = M.ok ((List.range (j - i).toNat).map fun (k : Nat) => i + (k : Int)) := by
  unfold oRng2; rw [small62_of (by omega) (by omega), small62_of (by omega) (by omega)]; rfl
theorem nf_tMap {f : α → M β} {g : α → β} : ∀ {l : List α}, (∀ a ∈ l, f a = M.ok (g a)) → tMap f l = M.ok (l.map g)
  | [], _ => rfl
  | a :: l, h => by
    rw [tMap, h a (List.mem_cons_self ..), nf_bind, nf_tMap fun b hb => h b (List.mem_cons_of_mem _ hb)]; rfl
theorem nf_comp {f : α → M β} (g : α → β) {l : List α} (hl : l.length ≤ lim) (h : ∀ a ∈ l, f a = M.ok (g a)) : tComp (M.ok l) f = M.ok (l.map g) := by
  unfold tComp
  rw [nf_bind, if_pos hl, nf_tMap h]; rfl
theorem nf_tMapO {f : α → M (Option β)} {g : α → Option β} : ∀ {l : List α}, (∀ a ∈ l, f a = M.ok (g a)) → tMapO f l = M.ok (l.filterMap g)
  | [], _ => rfl
  | a :: l, h => by
    rw [tMapO, h a (List.mem_cons_self ..), nf_bind, nf_tMapO fun b hb => h b (List.mem_cons_of_mem _ hb), nf_bind, List.filterMap_cons]
    cases g a <;> rfl
theorem nf_compI {f : α → M β} {c : α → M Bool} (p : α → Bool) (g : α → β) {l : List α} (hl : l.length ≤ lim) (hc : ∀ a ∈ l, c a = M.ok (p a)) (h : ∀ a ∈ l, p a = true → f a = M.ok (g a)) : tCompI (M.ok l) c f = M.ok ((l.filter p).map g) := by
  unfold tCompI
  rw [nf_bind, if_pos hl, nf_tMapO (g := fun a => if p a then some (g a) else none) (fun a ha => by
    rw [hc a ha, nf_bind]
    cases hp : p a
    · rfl
    · rw [if_pos rfl, if_pos rfl, h a ha hp]; rfl), nf_nox]
  congr 1
  clear hl hc h
  induction l with
  | nil => rfl
  | cons a l ih =>
    rw [List.filterMap_cons, List.filter_cons]
    cases hp : p a
    · simp only [Bool.false_eq_true, if_false]; exact ih
    · simp only [if_true]; rw [List.map_cons, ih]
/-- a loop that goes on in any case -/
theorem nf_forS {f : α → σ → M σ} (g : α → σ → σ) (P : σ → Prop) : ∀ {l : List α} {s : σ}, P s → (∀ a ∈ l, ∀ s, P s → f a s = M.ok (g a s) ∧ P (g a s)) → tForS f l s = M.ok (l.foldl (fun s a => g a s) s) ∧ P (l.foldl (fun s a => g a s) s)
  | [], s, h, _ => ⟨rfl, h⟩
  | a :: l, s, h, hf => by
    obtain ⟨h1, h2⟩ := hf a (List.mem_cons_self ..) s h
    rw [tForS, h1, nf_bind, List.foldl_cons]
    exact nf_forS g P h2 fun b hb => hf b (List.mem_cons_of_mem _ hb)
/-- by an invariant over the turns -/
theorem nf_forI {f : α → σ → M σ} (I : Nat → σ → Prop) : ∀ {l : List α} {s : σ} (i : Nat), I i s → (∀ j a s, l[j]? = some a → I (i + j) s → ∃ s', f a s = M.ok s' ∧ I (i + j + 1) s') → ∃ s', tForS f l s = M.ok s' ∧ I (i + l.length) s'
  | [], s, i, h, _ => ⟨s, rfl, h⟩
  | a :: l, s, i, h, hf => by
    obtain ⟨s1, h1, h2⟩ := hf 0 a s rfl h
    obtain ⟨s2, h3, h4⟩ := nf_forI I (i + 1) h2 fun j b s hb hI => by
      have := hf (j + 1) b s (by simpa using hb) (by rw [show i + (j + 1) = i + 1 + j by omega]; exact hI)
      rw [show i + (j + 1) + 1 = i + 1 + j + 1 by omega] at this
      exact this
    refine ⟨s2, ?_, by rw [List.length_cons, show i + (l.length + 1) = i + 1 + l.length by omega]; exact h4⟩
    rw [tForS, h1, nf_bind, h3]
/-- a loop that looks for the first one -/
theorem nf_find {f : α → Unit → M (TO Unit β)} {c : α → Bool} {r : α → β} : ∀ {l : List α}, (∀ a ∈ l, f a () = M.ok (if c a then .ret (r a) else .nx ())) → tFor f l () = M.ok (match l.find? c with | some a => .ret (r a) | none => .nx ())
  | [], _ => rfl
  | a :: l, h => by
    rw [tFor, h a (List.mem_cons_self ..), nf_bind, List.find?_cons]
    cases hc : c a
    · exact nf_find fun b hb => h b (List.mem_cons_of_mem _ hb)
    · rfl
theorem if_ok {z : Bool} {a b : α} {x y : M α} (h1 : x = M.ok a) (h2 : y = M.ok b) : (if z then x else y) = M.ok (if z then a else b) := by cases z <;> assumption
@[simp] theorem nf_afterN (s : σ) (k : σ → M γ) (r : β → M γ) : tAfter (M.ok (.nx s)) k r = k s := (rfl)
@[simp] theorem nf_afterR (b : β) (k : σ → M γ) (r : β → M γ) : tAfter (M.ok (.ret b)) k r = r b := (rfl)
end
/-! what does not touch the register -/
def Pu {α : Type} (t : M α) : Prop := ∀ a rs', t none = .ok a rs' → t = M.ok a
section
variable {α β γ δ σ : Type}
theorem pu_ok (a : α) : Pu (M.ok a) := fun b rs' h => by cases h; rfl
end
/-! runs with the register -/
section
variable {α β γ δ : Type} {rs rs1 rs2 : Rg}
theorem run_bind {m : M α} {f : α → M β} {a : α} (h : m rs = .ok a rs1) : M.bind m f rs = f a rs1 := bind_ok' h
theorem run_B1 {m : M α} {f : α → M β} {a : α} (h : m rs = .ok a rs1) : tB1 f m rs = f a rs1 := bind_ok' h
theorem run_if {c : M Bool} {a b : M α} {z : Bool} (h : c rs = .ok z rs1) : tIf c a b rs = (if z then a else b) rs1 := bind_ok' h
/-- a comprehension that draws -/
theorem run_tMap {f : α → M β} {P : Rg → Prop} {R : α → β → Prop} : ∀ {l : List α} {rs : Rg}, P rs → (∀ a ∈ l, ∀ rs, P rs → ∃ b rs', f a rs = .ok b rs' ∧ P rs' ∧ R a b) → ∃ bs rs', tMap f l rs = .ok bs rs' ∧ P rs' ∧ bs.length = l.length ∧ ∀ (i : Nat) a b, l[i]? = some a → bs[i]? = some b → R a b
  | [], rs, h, _ => ⟨[], rs, rfl, h, rfl, fun i a b e => by simp at e⟩
  | a :: l, rs, h, hf => by
    obtain ⟨b, rs1, h1, h2, h3⟩ := hf a (List.mem_cons_self ..) rs h
    obtain ⟨bs, rs2, h4, h5, h6, h7⟩ := run_tMap h2 fun c hc => hf c (List.mem_cons_of_mem _ hc)
    refine ⟨b :: bs, rs2, ?_, h5, by simp [h6], fun i c d e e2 => ?_⟩
    · rw [tMap, run_bind h1, run_bind h4]; rfl
    · cases i with
      | zero => simp at e e2; subst e; subst e2; exact h3
      | succ i => exact h7 i c d (by simpa using e) (by simpa using e2)
theorem run_comp {f : α → M β} {m : M (List α)} {l : List α} {P : Rg → Prop} {R : α → β → Prop} (hm : m rs = .ok l rs1) (hl : l.length ≤ lim) (h : P rs1) (hf : ∀ a ∈ l, ∀ rs, P rs → ∃ b rs', f a rs = .ok b rs' ∧ P rs' ∧ R a b) :
    ∃ bs rs', tComp m f rs = .ok bs rs' ∧ P rs' ∧ bs.length = l.length ∧ ∀ (i : Nat) a b, l[i]? = some a → bs[i]? = some b → R a b := by
  obtain ⟨bs, rs', h1, h2, h3, h4⟩ := run_tMap h hf
  refine ⟨bs, rs', ?_, h2, h3, h4⟩
  unfold tComp
  rw [run_bind hm, if_pos hl]
  unfold M.nox
  rw [h1]
end
end Mp

set_option Elab.async false
set_option linter.all false
set_option maxRecDepth 100000
set_option maxHeartbeats 4000000
/-! Nf, part 2: words, the register of two. -/
namespace Mp
open PySem
/-- a register of two ints -/
def RgTwo (rs : Rg) : Prop := ∃ a b : Int, rs = some (dI [a, b])
/-- a tuple of ints from 0 to p - 1 -/
def Vec (p : Int) (n : Nat) (x : List Int) : Prop := x.length = n ∧ ∀ z ∈ x, 0 ≤ z ∧ z < p
def scal (p a : Int) (x : List Int) : List Int := x.map fun z => (z * a).fmod p
def vecs (p : Int) : Nat → List (List Int)
  | 0 => [[]]
  | n + 1 => (vecs p n).flatMap fun w => (List.range p.toNat).map fun (a : Nat) => (a : Int) :: w
def primes : List Int := [2, 3, 5, 7]
def ones (p : Int) : List Int := (List.range (p - 1).toNat).map fun (k : Nat) => 1 + (k : Int)
theorem vec_mem {p : Int} : ∀ {n : Nat} {x : List Int}, Vec p n x → x ∈ vecs p n
  | 0, x, h => by
    have : x = [] := List.eq_nil_of_length_eq_zero h.1
    rw [this]; simp [vecs]
  | n + 1, [], h => by have := h.1; simp at this
  | n + 1, a :: r, h => by
    have ha := h.2 a (List.mem_cons_self ..)
    have hr : r ∈ vecs p n := vec_mem ⟨by have := h.1; simpa using this, fun z hz => h.2 z (List.mem_cons_of_mem _ hz)⟩
    unfold vecs
    rw [List.mem_flatMap]
    refine ⟨r, hr, List.mem_map.mpr ⟨a.toNat, List.mem_range.mpr (by omega), ?_⟩⟩
    rw [Int.toNat_of_nonneg ha.1]
theorem ones_mem {p a : Int} (h : 0 < a) (h2 : a < p) : a ∈ ones p := by
  unfold ones
  rw [List.mem_map]
  exact ⟨(a - 1).toNat, List.mem_range.mpr (by omega), by omega⟩
theorem ones_iff {p a : Int} : a ∈ ones p ↔ 0 < a ∧ a < p := by
  refine ⟨fun h => ?_, fun h => ones_mem h.1 h.2⟩
  unfold ones at h
  obtain ⟨k, hk, rfl⟩ := List.mem_map.mp h
  rw [List.mem_range] at hk
  omega
theorem prime_lt {p : Int} (hp : p ∈ primes) : 1 < p ∧ p < 10 := by
  simp only [primes, List.mem_cons, List.not_mem_nil, or_false] at hp
  omega
theorem scal_len {p a : Int} {x : List Int} : (scal p a x).length = x.length := by simp [scal]
theorem scal_vec {p a : Int} (hp : 0 < p) {n : Nat} {x : List Int} (h : x.length = n) : Vec p n (scal p a x) := by
  refine ⟨by rw [scal_len, h], fun z hz => ?_⟩
  obtain ⟨y, _, rfl⟩ := List.mem_map.mp hz
  exact ⟨Int.fmod_nonneg_of_pos _ hp, Int.fmod_lt_of_pos _ hp⟩
theorem rng2_ones {p : Int} (hp : 1 < p ∧ p < 10) : oRng2 1 p = M.ok (ones p) := by
  rw [nf_rng2 (by omega) (by omega) (by omega) (by omega)]; rfl
theorem forI_bind {α σ γ : Type} {f : α → σ → M σ} {k : σ → M γ} {l : List α} {s : σ} (Q : M γ → Prop) (I : Nat → σ → Prop) (h0 : I 0 s) (step : ∀ j a s, l[j]? = some a → I j s → ∃ s', f a s = M.ok s' ∧ I (j + 1) s')
    (fin : ∀ s, I l.length s → Q (k s)) : Q (M.bind (tForS f l s) k) := by
  obtain ⟨s', h1, h2⟩ := nf_forI (f := f) I (l := l) (s := s) 0 h0 fun j a s hj hI => by
    rw [Nat.zero_add] at *; exact step j a s hj hI
  rw [h1, nf_bind]
  exact fin s' (by rw [Nat.zero_add] at h2; exact h2)
theorem rng_get {n j : Nat} {a : Int} (h : ((List.range n).map fun (k : Nat) => (k : Int))[j]? = some a) : j < n ∧ a = (j : Int) := by
  rw [List.getElem?_map] at h
  cases q : (List.range n)[j]? with
  | none => rw [q] at h; cases h
  | some k =>
    rw [q] at h
    obtain ⟨h1, h2⟩ := List.getElem?_eq_some_iff.mp q
    rw [List.length_range] at h1
    rw [List.getElem_range] at h2
    cases h
    exact ⟨h1, by rw [h2]⟩
theorem forR_bind {σ γ : Type} {n : Nat} {f : Int → σ → M σ} {k : σ → M γ} {s : σ} (Q : M γ → Prop) (I : Nat → σ → Prop) (h0 : I 0 s) (step : ∀ (j : Nat) s, j < n → I j s → ∃ s', f (j : Int) s = M.ok s' ∧ I (j + 1) s')
    (fin : ∀ s, I n s → Q (k s)) : Q (M.bind (tForS f ((List.range n).map fun (k : Nat) => (k : Int)) s) k) :=
  forI_bind Q I h0 (fun j a s hj hI => by obtain ⟨h1, rfl⟩ := rng_get hj; exact step j s h1 hI) fun s hI => fin s (by rwa [List.length_map, List.length_range] at hI)
end Mp

set_option Elab.async false
set_option linter.all false
set_option maxRecDepth 100000
set_option maxHeartbeats 1000000
/-! La, part 1: words modulo p, spans. -/
namespace Mp
/-! ### congruence -/
def eqm (p a b : Int) : Prop := a % p = b % p
section
variable {p a b c d : Int}
theorem eqm.rfl' : eqm p a a := rfl
theorem eqm.symm (h : eqm p a b) : eqm p b a := Eq.symm h
theorem eqm.trans (h : eqm p a b) (h2 : eqm p b c) : eqm p a c := Eq.trans h h2
theorem eqm.add (h : eqm p a b) (h2 : eqm p c d) : eqm p (a + c) (b + d) := by
  unfold eqm at *; rw [Int.add_emod, h, h2, ← Int.add_emod]
theorem eqm.mul (h : eqm p a b) (h2 : eqm p c d) : eqm p (a * c) (b * d) := by
  unfold eqm at *; rw [Int.mul_emod, h, h2, ← Int.mul_emod]
theorem eqm.neg (h : eqm p a b) : eqm p (-a) (-b) := by
  have := eqm.mul (p := p) (a := -1) (b := -1) rfl h
  rwa [Int.neg_one_mul, Int.neg_one_mul] at this
theorem eqm.sub (h : eqm p a b) (h2 : eqm p c d) : eqm p (a - c) (b - d) := by
  rw [Int.sub_eq_add_neg, Int.sub_eq_add_neg]; exact h.add h2.neg
theorem eqm.mod (h : eqm p a b) : eqm p (a % p) b := by
  unfold eqm at *; rw [Int.emod_emod_of_dvd _ (Int.dvd_refl p)]; exact h
theorem eqm.of_eq (h : a = b) : eqm p a b := h ▸ rfl
theorem eqm.eq (h : eqm p a b) (h1 : 0 ≤ a) (h2 : a < p) (h3 : 0 ≤ b) (h4 : b < p) : a = b := by
  unfold eqm at h; rwa [Int.emod_eq_of_lt h1 h2, Int.emod_eq_of_lt h3 h4] at h
theorem eqm.zero (h : eqm p a 0) (h1 : 0 ≤ a) (h2 : a < p) : a = 0 := h.eq h1 h2 (Int.le_refl _) (by omega)
end
/-- sums of k terms -/
def sm (f : Nat → Int) : Nat → Int
  | 0 => 0
  | k + 1 => sm f k + f k
section
variable {p : Int} {f g : Nat → Int} {k : Nat}
theorem sm_congr : ∀ {k : Nat}, (∀ i, i < k → eqm p (f i) (g i)) → eqm p (sm f k) (sm g k)
  | 0, _ => rfl
  | k + 1, h => eqm.add (sm_congr fun i hi => h i (by omega)) (h k (by omega))
theorem sm_zero : ∀ {k : Nat}, sm (fun _ => 0) k = 0
  | 0 => rfl
  | k + 1 => by unfold sm; rw [sm_zero]; rfl
theorem sm_add : ∀ {k : Nat}, sm (fun i => f i + g i) k = sm f k + sm g k
  | 0 => rfl
  | k + 1 => by unfold sm; rw [sm_add]; omega
theorem sm_mul {a : Int} : ∀ {k : Nat}, sm (fun i => f i * a) k = sm f k * a
  | 0 => by simp [sm]
  | k + 1 => by unfold sm; rw [sm_mul, Int.add_mul]
theorem sm_single {j : Nat} : ∀ {k : Nat}, j < k → (∀ i, i < k → i ≠ j → f i = 0) → sm f k = f j
  | 0, h, _ => by omega
  | k + 1, h, h2 => by
    unfold sm
    by_cases e : j = k
    · subst e
      have : sm f j = 0 := by
        have h3 : ∀ m, m ≤ j → sm f m = 0 := by
          intro m
          induction m with
          | zero => intro _; rfl
          | succ m ih => intro hm; unfold sm; rw [ih (by omega), h2 m (by omega) (by omega)]; rfl
        exact h3 j (Nat.le_refl _)
      rw [this]; omega
    · rw [sm_single (by omega) fun i hi hn => h2 i (by omega) hn, h2 k (by omega) (by omega)]; omega
theorem sm_all0 (h : ∀ i, i < k → eqm p (f i) 0) : eqm p (sm f k) 0 := (sm_congr (g := fun _ => 0) h).trans (.of_eq sm_zero)
end
/-! ### words -/
def cd (v : List Int) (j : Nat) : Int := v.getD j 0
def ad (p : Int) (v w : List Int) : List Int := List.zipWith (fun x y => (x + y) % p) v w
def sc (p a : Int) (v : List Int) : List Int := v.map fun x => x * a % p
def zv (n : Nat) : List Int := List.replicate n 0
section
variable {p a : Int} {n : Nat} {v w u : List Int} {j : Nat}
theorem cd_ad (h : v.length = w.length) : cd (ad p v w) j = (cd v j + cd w j) % p := by
  unfold cd ad
  simp only [List.getD_eq_getElem?_getD, List.getElem?_zipWith]
  by_cases hj : j < v.length
  · rw [List.getElem?_eq_getElem hj, List.getElem?_eq_getElem (h ▸ hj)]; rfl
  · rw [List.getElem?_eq_none (by omega), List.getElem?_eq_none (by omega)]; simp
theorem cd_sc : cd (sc p a v) j = cd v j * a % p := by
  unfold cd sc
  simp only [List.getD_eq_getElem?_getD, List.getElem?_map]
  cases v[j]? <;> simp
theorem cd_zv : cd (zv n) j = 0 := by
  unfold cd zv
  simp only [List.getD_eq_getElem?_getD, List.getElem?_replicate]
  split <;> rfl
theorem Vec.len (h : Vec p n v) : v.length = n := h.1
theorem Vec.cd (hp : 0 < p) (h : Vec p n v) : 0 ≤ cd v j ∧ cd v j < p := by
  unfold Mp.cd
  rw [List.getD_eq_getElem?_getD]
  cases e : v[j]? with
  | none => simp; omega
  | some z => exact h.2 z (List.mem_of_getElem? e)
theorem Vec.cd_ge (h : Vec p n v) (hj : n ≤ j) : Mp.cd v j = 0 := by
  unfold Mp.cd; rw [List.getD_eq_getElem?_getD, List.getElem?_eq_none (by rw [h.1]; exact hj)]; rfl
theorem Vec.ext (hp : 0 < p) (h : Vec p n v) (h2 : Vec p n w) (e : ∀ j, j < n → eqm p (Mp.cd v j) (Mp.cd w j)) : v = w := by
  apply List.ext_getElem (h.1.trans h2.1.symm)
  intro j h3 h4
  have := (e j (h.1 ▸ h3)).eq (h.cd hp).1 (h.cd hp).2 (h2.cd hp).1 (h2.cd hp).2
  simpa [Mp.cd, List.getD_eq_getElem?_getD, h3, h4] using this
theorem ad_vec (hp : 0 < p) (h : v.length = n) (h2 : w.length = n) : Vec p n (ad p v w) := by
  refine ⟨by unfold ad; rw [List.length_zipWith, h, h2, Nat.min_self], fun z hz => ?_⟩
  unfold ad at hz
  rw [List.mem_iff_getElem?] at hz
  obtain ⟨i, hi⟩ := hz
  rw [List.getElem?_zipWith] at hi
  split at hi
  · cases hi; exact ⟨Int.emod_nonneg _ (by omega), Int.emod_lt_of_pos _ hp⟩
  · cases hi
theorem sc_vec (hp : 0 < p) (h : v.length = n) : Vec p n (sc p a v) := by
  refine ⟨by unfold sc; rw [List.length_map, h], fun z hz => ?_⟩
  obtain ⟨y, _, rfl⟩ := List.mem_map.mp hz
  exact ⟨Int.emod_nonneg _ (by omega), Int.emod_lt_of_pos _ hp⟩
theorem zv_vec (hp : 0 < p) : Vec p n (zv n) := ⟨List.length_replicate .., fun z hz => by rw [List.eq_of_mem_replicate hz]; omega⟩
end
/-! ### spans -/
inductive Sp (p : Int) (n : Nat) (R : List (List Int)) : List Int → Prop
  | zero : Sp p n R (zv n)
  | step {v r : List Int} (c : Int) : Sp p n R v → r ∈ R → Sp p n R (ad p v (sc p c r))
def Rows (p : Int) (n : Nat) (R : List (List Int)) : Prop := ∀ r ∈ R, Vec p n r
section
variable {p a : Int} {n : Nat} {R R' : List (List Int)} {v w r : List Int}
theorem Sp.vec (hp : 0 < p) (hR : Rows p n R) (h : Sp p n R v) : Vec p n v := by
  induction h with
  | zero => exact zv_vec hp
  | step c h hr ih => exact ad_vec hp ih.1 (sc_vec hp (hR _ hr).1).1
theorem ad_zero (hp : 0 < p) (h : Vec p n v) : ad p v (zv n) = v := by
  refine (ad_vec hp h.1 (zv_vec hp).1).ext hp h fun j _ => ?_
  rw [cd_ad (h.1.trans (zv_vec (p := p) hp).1.symm), cd_zv]
  exact (eqm.mod eqm.rfl').trans (.of_eq (by omega))
theorem zero_ad (hp : 0 < p) (h : Vec p n v) : ad p (zv n) v = v := by
  refine (ad_vec hp (zv_vec hp).1 h.1).ext hp h fun j _ => ?_
  rw [cd_ad ((zv_vec (p := p) hp).1.trans h.1.symm), cd_zv]
  exact (eqm.mod eqm.rfl').trans (.of_eq (by omega))
theorem sc_one (hp : 0 < p) (h : Vec p n v) : sc p 1 v = v := by
  refine (sc_vec hp h.1).ext hp h fun j _ => ?_
  rw [cd_sc]
  exact (eqm.mod eqm.rfl').trans (.of_eq (by omega))
theorem ad_assoc (hp : 0 < p) {u : List Int} (h : u.length = n) (h2 : v.length = n) (h3 : w.length = n) : ad p u (ad p v w) = ad p (ad p u v) w := by
  have a1 := ad_vec (p := p) hp h2 h3
  have a2 := ad_vec (p := p) hp h h2
  refine (ad_vec hp h a1.1).ext hp (ad_vec hp a2.1 h3) fun j _ => ?_
  rw [cd_ad (h.trans a1.1.symm), cd_ad (h2.trans h3.symm), cd_ad (a2.1.trans h3.symm), cd_ad (h.trans h2.symm)]
  have e1 : eqm p ((cd u j + (cd v j + cd w j) % p) % p) (cd u j + (cd v j + cd w j)) := by repeat (first | apply eqm.mod | apply eqm.add | apply eqm.mul | apply eqm.sub | apply eqm.neg | exact eqm.rfl')
  have e2 : eqm p (((cd u j + cd v j) % p + cd w j) % p) ((cd u j + cd v j) + cd w j) := by repeat (first | apply eqm.mod | apply eqm.add | apply eqm.mul | apply eqm.sub | apply eqm.neg | exact eqm.rfl')
  exact e1.trans ((eqm.of_eq (by omega)).trans e2.symm)
theorem sc_ad (hp : 0 < p) {c : Int} (h : v.length = n) (h2 : w.length = n) : sc p a (ad p v (sc p c w)) = ad p (sc p a v) (sc p (c * a) w) := by
  have a1 := sc_vec (p := p) (a := c) hp h2
  have a2 := sc_vec (p := p) (a := a) hp h
  have a3 := sc_vec (p := p) (a := c * a) hp h2
  refine (sc_vec hp (ad_vec hp h a1.1).1).ext hp (ad_vec hp a2.1 a3.1) fun j _ => ?_
  rw [cd_sc, cd_ad (h.trans a1.1.symm), cd_sc, cd_ad (a2.1.trans a3.1.symm), cd_sc, cd_sc]
  have e1 : eqm p (((cd v j + cd w j * c % p) % p * a) % p) ((cd v j + cd w j * c) * a) := by repeat (first | apply eqm.mod | apply eqm.add | apply eqm.mul | apply eqm.sub | apply eqm.neg | exact eqm.rfl')
  have e2 : eqm p ((cd v j * a % p + cd w j * (c * a) % p) % p) (cd v j * a + cd w j * (c * a)) := by repeat (first | apply eqm.mod | apply eqm.add | apply eqm.mul | apply eqm.sub | apply eqm.neg | exact eqm.rfl')
  exact e1.trans ((eqm.of_eq (by grind)).trans e2.symm)
theorem sc_zero (hp : 0 < p) : sc p a (zv n) = zv n := by
  refine (sc_vec hp (zv_vec hp).1).ext hp (zv_vec hp) fun j _ => ?_
  rw [cd_sc, cd_zv]
  exact (eqm.mod eqm.rfl').trans (.of_eq (by omega))
theorem Sp.mem (hp : 0 < p) (hR : Rows p n R) (h : r ∈ R) : Sp p n R r := by
  have := Sp.step (p := p) (n := n) 1 Sp.zero h
  rwa [sc_one hp (hR r h), zero_ad hp (hR r h)] at this
theorem Sp.add (hp : 0 < p) (hR : Rows p n R) (h : Sp p n R v) (h2 : Sp p n R w) : Sp p n R (ad p v w) := by
  induction h2 with
  | zero => rw [ad_zero hp (h.vec hp hR)]; exact h
  | step c h2 hr ih =>
    rw [ad_assoc hp (h.vec hp hR).1 (h2.vec hp hR).1 (sc_vec hp (hR _ hr).1).1]
    exact .step c ih hr
theorem Sp.scl (hp : 0 < p) (hR : Rows p n R) (h : Sp p n R v) : Sp p n R (sc p a v) := by
  induction h with
  | zero => rw [sc_zero hp]; exact .zero
  | step c h hr ih =>
    rw [sc_ad hp (h.vec hp hR).1 (hR _ hr).1]
    exact .step _ ih hr
theorem Sp.sub (hp : 0 < p) (hR : Rows p n R) (hR' : Rows p n R') (h : ∀ r ∈ R, Sp p n R' r) (h2 : Sp p n R v) : Sp p n R' v := by
  induction h2 with
  | zero => exact .zero
  | step c h2 hr ih => exact ih.add hp hR' ((h _ hr).scl hp hR')
theorem Sp.lin (hp : 0 < p) (hR : Rows p n R) (φ : List Int → Int) (hz : eqm p (φ (zv n)) 0) (ha : ∀ v w, Vec p n v → Vec p n w → eqm p (φ (ad p v w)) (φ v + φ w))
    (hs : ∀ a v, Vec p n v → eqm p (φ (sc p a v)) (φ v * a)) (h0 : ∀ r ∈ R, eqm p (φ r) 0) (h : Sp p n R v) : eqm p (φ v) 0 := by
  induction h with
  | zero => exact hz
  | @step v r c h hr ih =>
    refine (ha _ _ (h.vec hp hR) (sc_vec hp (hR _ hr).1)).trans ?_
    exact (ih.add ((hs c r (hR _ hr)).trans (eqm.mul (h0 r hr) (eqm.rfl' (a := c))))).trans (.of_eq (by omega))
/-- the same span -/
def Same (p : Int) (n : Nat) (R R' : List (List Int)) : Prop := ∀ v, Sp p n R v ↔ Sp p n R' v
theorem Same.of (hp : 0 < p) (hR : Rows p n R) (hR' : Rows p n R') (h : ∀ r ∈ R, Sp p n R' r) (h' : ∀ r ∈ R', Sp p n R r) : Same p n R R' :=
  fun v => ⟨fun q => q.sub hp hR hR' h, fun q => q.sub hp hR' hR h'⟩
theorem Same.trans {R'' : List (List Int)} (h : Same p n R R') (h' : Same p n R' R'') : Same p n R R'' := fun v => (h v).trans (h' v)
theorem Same.symm (h : Same p n R R') : Same p n R' R := fun v => (h v).symm
end
end Mp

set_option Elab.async false
set_option linter.all false
set_option maxRecDepth 100000
set_option maxHeartbeats 1000000
/-! La, part 2: reduced tables; a span has one only. -/
namespace Mp
def rw_ (R : List (List Int)) (i : Nat) : List Int := R.getD i []
def pv (P : List Nat) (i : Nat) : Nat := P.getD i 0
structure Rref (p : Int) (n : Nat) (R : List (List Int)) (P : List Nat) : Prop where
  rows : Rows p n R
  len : R.length = P.length
  inc : ∀ i j, i < j → j < P.length → pv P i < pv P j
  lt : ∀ i, i < P.length → pv P i < n
  one : ∀ i j, i < P.length → j < P.length → cd (rw_ R i) (pv P j) = if i = j then 1 else 0
  low : ∀ i c, i < P.length → c < pv P i → cd (rw_ R i) c = 0
section
variable {p a : Int} {n : Nat} {R R' : List (List Int)} {P P' : List Nat} {v w r : List Int}
theorem rw_mem {i : Nat} (h : i < R.length) : rw_ R i ∈ R := by
  unfold rw_; rw [List.getD_eq_getElem?_getD, List.getElem?_eq_getElem h]; exact List.getElem_mem h
theorem mem_rw (h : r ∈ R) : ∃ i, i < R.length ∧ rw_ R i = r := by
  obtain ⟨i, hi, e⟩ := List.mem_iff_getElem.mp h
  exact ⟨i, hi, by unfold rw_; rw [List.getD_eq_getElem?_getD, List.getElem?_eq_getElem hi]; exact e⟩
/-- a word of the span is told by its places at the pivots -/
theorem Rref.sum (hp : 0 < p) (H : Rref p n R P) (h : Sp p n R v) (j : Nat) : eqm p (cd v j) (sm (fun i => cd v (pv P i) * cd (rw_ R i) j) P.length) := by
  have key : eqm p (sm (fun i => cd v (pv P i) * cd (rw_ R i) j) P.length - cd v j) 0 := by
    refine h.lin hp H.rows (fun v => sm (fun i => cd v (pv P i) * cd (rw_ R i) j) P.length - cd v j) ?_ (fun v w hv hw => ?_) (fun a v hv => ?_) fun r hr => ?_
    · simp only [cd_zv, Int.zero_mul, sm_zero]; rfl
    · have e1 : eqm p (sm (fun i => cd (ad p v w) (pv P i) * cd (rw_ R i) j) P.length) (sm (fun i => cd v (pv P i) * cd (rw_ R i) j + cd w (pv P i) * cd (rw_ R i) j) P.length) := by
        refine sm_congr fun i _ => ?_
        rw [cd_ad (hv.1.trans hw.1.symm), ← Int.add_mul]
        exact eqm.mul (eqm.mod eqm.rfl') eqm.rfl'
      have e2 : eqm p (cd (ad p v w) j) (cd v j + cd w j) := by
        rw [cd_ad (hv.1.trans hw.1.symm)]; exact eqm.mod eqm.rfl'
      refine (eqm.sub e1 e2).trans (.of_eq ?_)
      rw [sm_add]; omega
    · have e1 : eqm p (sm (fun i => cd (sc p a v) (pv P i) * cd (rw_ R i) j) P.length) (sm (fun i => cd v (pv P i) * cd (rw_ R i) j * a) P.length) := by
        refine sm_congr fun i _ => ?_
        rw [cd_sc]
        exact (eqm.mul (eqm.mod eqm.rfl') eqm.rfl').trans (.of_eq (by grind))
      have e2 : eqm p (cd (sc p a v) j) (cd v j * a) := by
        rw [cd_sc]; exact eqm.mod eqm.rfl'
      refine (eqm.sub e1 e2).trans (.of_eq ?_)
      rw [sm_mul, Int.sub_mul]
    · obtain ⟨k, hk, rfl⟩ := mem_rw hr
      rw [H.len] at hk
      have : sm (fun i => cd (rw_ R k) (pv P i) * cd (rw_ R i) j) P.length = cd (rw_ R k) j := by
        rw [sm_single hk fun i hi hn => ?_, H.one k k hk hk]
        · simp
        · rw [H.one k i hk hi, if_neg (fun q => hn q.symm), Int.zero_mul]
      show eqm p (sm (fun i => cd (rw_ R k) (pv P i) * cd (rw_ R i) j) P.length - cd (rw_ R k) j) 0
      rw [this]; exact .of_eq (by omega)
  have q2 := eqm.add key (eqm.rfl' (a := cd v j))
  rw [show sm (fun i => cd v (pv P i) * cd (rw_ R i) j) P.length - cd v j + cd v j = sm (fun i => cd v (pv P i) * cd (rw_ R i) j) P.length by omega, show (0 : Int) + cd v j = cd v j by omega] at q2
  exact q2.symm
theorem Rref.kill (hp : 0 < p) (H : Rref p n R P) (h : Sp p n R v) (h2 : Sp p n R w) (e : ∀ i, i < P.length → cd v (pv P i) = cd w (pv P i)) : v = w := by
  refine (h.vec hp H.rows).ext hp (h2.vec hp H.rows) fun j _ => ?_
  refine (H.sum hp h j).trans (eqm.trans ?_ (H.sum hp h2 j).symm)
  exact sm_congr fun i hi => by rw [e i hi]; exact eqm.rfl'
/-- the first place that is not 0 is a pivot -/
theorem Rref.lead (hp : 0 < p) (H : Rref p n R P) (h : Sp p n R v) {c : Nat} (hc : cd v c ≠ 0) (hl : ∀ j, j < c → cd v j = 0) : ∃ i, i < P.length ∧ pv P i = c := by
  refine Classical.byContradiction fun hn => hc ?_
  refine eqm.zero ((H.sum hp h c).trans (sm_all0 fun i hi => ?_)) ((h.vec hp H.rows).cd hp).1 ((h.vec hp H.rows).cd hp).2
  by_cases q : pv P i < c
  · rw [hl _ q, Int.zero_mul]; exact eqm.rfl'
  · have : c < pv P i := by
      have : pv P i ≠ c := fun q2 => hn ⟨i, hi, q2⟩
      omega
    rw [H.low i c hi this, Int.mul_zero]; exact eqm.rfl'
theorem Rref.pivot (H : Rref p n R P) {i : Nat} (hi : i < P.length) : cd (rw_ R i) (pv P i) = 1 := by rw [H.one i i hi hi, if_pos rfl]
theorem Rref.sub (hp : 0 < p) (H : Rref p n R P) (H' : Rref p n R' P') (s : Same p n R R') : ∀ i, i < P.length → ∃ k, k < P'.length ∧ pv P' k = pv P i := fun i hi => by
  refine H'.lead hp ((s _).mp (Sp.mem hp H.rows (rw_mem (by rw [H.len]; exact hi)))) (c := pv P i) (by rw [H.pivot hi]; decide) fun j hj => H.low i j hi hj
/-- strictly rising lists with the same members are one -/
theorem rise_eq : ∀ {P P' : List Nat}, (∀ i j, i < j → j < P.length → pv P i < pv P j) → (∀ i j, i < j → j < P'.length → pv P' i < pv P' j) →
    (∀ i, i < P.length → ∃ k, k < P'.length ∧ pv P' k = pv P i) → (∀ i, i < P'.length → ∃ k, k < P.length ∧ pv P k = pv P' i) → P = P'
  | [], [], _, _, _, _ => rfl
  | [], b :: P', _, _, _, h => by obtain ⟨k, hk, _⟩ := h 0 (by simp); simp at hk
  | a :: P, [], _, _, h, _ => by obtain ⟨k, hk, _⟩ := h 0 (by simp); simp at hk
  | a :: P, b :: P', h1, h2, h3, h4 => by
    have e : a = b := by
      obtain ⟨k, hk, ek⟩ := h3 0 (by simp)
      obtain ⟨m, hm, em⟩ := h4 0 (by simp)
      have ek : pv (b :: P') k = a := ek
      have em : pv (a :: P) m = b := em
      cases k with
      | zero => exact ek.symm
      | succ k =>
        have := h2 0 (k + 1) (by omega) hk
        have t : pv (b :: P') 0 = b := rfl
        cases m with
        | zero => exact em
        | succ m =>
          have := h1 0 (m + 1) (by omega) hm
          have t : pv (a :: P) 0 = a := rfl
          omega
    subst e
    congr 1
    refine rise_eq (fun i j hij hj => h1 (i + 1) (j + 1) (by omega) (by simpa using hj)) (fun i j hij hj => h2 (i + 1) (j + 1) (by omega) (by simpa using hj)) (fun i hi => ?_) fun i hi => ?_
    · obtain ⟨k, hk, ek⟩ := h3 (i + 1) (by simpa using hi)
      cases k with
      | zero =>
        have := h1 0 (i + 1) (by omega) (by simpa using hi)
        have t : pv (a :: P) 0 = a := rfl
        have t' : pv (a :: P') 0 = a := rfl
        omega
      | succ k => exact ⟨k, by simpa using hk, ek⟩
    · obtain ⟨k, hk, ek⟩ := h4 (i + 1) (by simpa using hi)
      cases k with
      | zero =>
        have := h2 0 (i + 1) (by omega) (by simpa using hi)
        have t : pv (a :: P) 0 = a := rfl
        have t' : pv (a :: P') 0 = a := rfl
        omega
      | succ k => exact ⟨k, by simpa using hk, ek⟩
/-- a span has one reduced table -/
theorem Rref.uniq (hp : 0 < p) (H : Rref p n R P) (H' : Rref p n R' P') (s : Same p n R R') : R = R' ∧ P = P' := by
  have e : P = P' := rise_eq H.inc H'.inc (H.sub hp H' s) (H'.sub hp H s.symm)
  subst e
  refine ⟨?_, rfl⟩
  apply List.ext_getElem (H.len.trans H'.len.symm)
  intro i h1 h2
  have hi : i < P.length := H.len ▸ h1
  have a1 := Sp.mem hp H.rows (rw_mem h1)
  have a2 := (s _).mpr (Sp.mem hp H'.rows (rw_mem h2))
  have := H.kill hp a1 a2 fun j hj => by rw [H.one i j hi hj, H'.one i j hi hj]
  simpa [rw_, List.getD_eq_getElem?_getD, h1, h2] using this
end
end Mp

set_option Elab.async false
set_option linter.all false
set_option maxRecDepth 100000
set_option maxHeartbeats 1000000
/-! La, part 3: one column of the reduction. -/
namespace Mp
def cl (p : Int) (head : List Int) (at_ : Nat) (row : List Int) : List Int := ad p row (sc p (-(cd row at_)) head)
section
variable {p a : Int} {n : Nat} {R R' : List (List Int)} {P P' : List Nat} {v w r head : List Int} {at_ : Nat}
theorem cl_vec (hp : 0 < p) (h : r.length = n) (h2 : head.length = n) : Vec p n (cl p head at_ r) := ad_vec hp h (sc_vec (p := p) hp h2).1
theorem cd_cl (hp : 0 < p) (h : r.length = n) (h2 : head.length = n) (j : Nat) : eqm p (cd (cl p head at_ r) j) (cd r j - cd r at_ * cd head j) := by
  unfold cl
  rw [cd_ad (h.trans (sc_vec (p := p) (a := -(cd r at_)) hp h2).1.symm), cd_sc]
  have e : eqm p ((cd r j + cd head j * -(cd r at_) % p) % p) (cd r j + cd head j * -(cd r at_)) := by repeat (first | apply eqm.mod | apply eqm.add | apply eqm.mul | apply eqm.sub | apply eqm.neg | exact eqm.rfl')
  exact e.trans (.of_eq (by grind))
theorem cl_back (hp : 0 < p) (h : Vec p n r) (h2 : Vec p n head) : ad p (cl p head at_ r) (sc p (cd r at_) head) = r := by
  have a1 := cl_vec (p := p) (at_ := at_) hp h.1 h2.1
  have a2 := sc_vec (p := p) (a := cd r at_) hp h2.1
  refine (ad_vec hp a1.1 a2.1).ext hp h fun j _ => ?_
  rw [cd_ad (a1.1.trans a2.1.symm), cd_sc]
  refine (eqm.mod (eqm.add (cd_cl hp h.1 h2.1 j) (eqm.mod eqm.rfl'))).trans (.of_eq (by grind))
theorem head_back (hp : 0 < p) {h0 : List Int} {x : Int} (h : Vec p n h0) (hx : eqm p (cd h0 at_ * x) 1) : sc p (cd h0 at_) (sc p x h0) = h0 := by
  have a1 := sc_vec (p := p) (a := x) hp h.1
  refine (sc_vec hp a1.1).ext hp h fun j _ => ?_
  rw [cd_sc, cd_sc]
  have e : eqm p ((cd h0 j * x % p * cd h0 at_) % p) (cd h0 j * x * cd h0 at_) := by repeat (first | apply eqm.mod | apply eqm.add | apply eqm.mul | apply eqm.sub | apply eqm.neg | exact eqm.rfl')
  refine e.trans ((eqm.of_eq (b := cd h0 j * (cd h0 at_ * x)) (by grind)).trans ((eqm.mul eqm.rfl' hx).trans (.of_eq (by omega))))
structure Red (p : Int) (n : Nat) (rows : List (List Int)) (at_ : Nat) (rest found : List (List Int)) (P : List Nat) : Prop where
  at_le : at_ ≤ n
  rest_v : Rows p n rest
  same : Same p n (found ++ rest) rows
  rref : Rref p n found P
  lt : ∀ i, i < P.length → pv P i < at_
  low : ∀ r ∈ rest, ∀ c, c < at_ → cd r c = 0
theorem Rows.app (h : Rows p n R) (h2 : Rows p n R') : Rows p n (R ++ R') := fun r hr => by
  rcases List.mem_append.mp hr with q | q
  · exact h r q
  · exact h2 r q
theorem Red.init (h : Rows p n R) : Red p n R 0 R [] [] where
  at_le := Nat.zero_le _
  rest_v := h
  same := fun v => Iff.rfl
  rref := ⟨fun r hr => (by cases hr), rfl, fun i j _ hj => (by simp at hj), fun i hi => (by simp at hi), fun i j hi _ => (by simp at hi), fun i c hi _ => (by simp at hi)⟩
  lt := fun i hi => (by simp at hi)
  low := fun r _ c hc => (by omega)
theorem Red.skip {rows rest found : List (List Int)} (H : Red p n rows at_ rest found P) (hn : at_ < n) (h : ∀ r ∈ rest, cd r at_ = 0) : Red p n rows (at_ + 1) rest found P where
  at_le := hn
  rest_v := H.rest_v
  same := H.same
  rref := H.rref
  lt := fun i hi => Nat.lt_succ_of_lt (H.lt i hi)
  low := fun r hr c hc => by
    by_cases e : c = at_
    · subst e; exact h r hr
    · exact H.low r hr c (by omega)
theorem rw_l {A B : List (List Int)} {i : Nat} (h : i < A.length) : rw_ (A ++ B) i = rw_ A i := by
  unfold rw_; simp only [List.getD_eq_getElem?_getD, List.getElem?_append_left h]
theorem rw_last {A : List (List Int)} {x : List Int} {i : Nat} (h : i = A.length) : rw_ (A ++ [x]) i = x := by
  subst h; unfold rw_; simp [List.getD_eq_getElem?_getD]
theorem rw_map {A : List (List Int)} {f : List Int → List Int} {i : Nat} (h : i < A.length) : rw_ (A.map f) i = f (rw_ A i) := by
  unfold rw_; simp [List.getD_eq_getElem?_getD, h]
theorem pv_l {A B : List Nat} {i : Nat} (h : i < A.length) : pv (A ++ B) i = pv A i := by
  unfold pv; simp only [List.getD_eq_getElem?_getD, List.getElem?_append_left h]
theorem pv_last {A : List Nat} {x : Nat} {i : Nat} (h : i = A.length) : pv (A ++ [x]) i = x := by
  subst h; unfold pv; simp [List.getD_eq_getElem?_getD]
theorem Red.step (hp : 1 < p) {rows rest rest1 found : List (List Int)} {h0 : List Int} {x : Int} (H : Red p n rows at_ rest found P) (hn : at_ < n) (hm : h0 ∈ rest) (hx : eqm p (cd h0 at_ * x) 1)
    (h1 : ∀ r ∈ rest1, r ∈ rest) (h2 : ∀ r ∈ rest, r = h0 ∨ r ∈ rest1) :
    Red p n rows (at_ + 1) (rest1.map (cl p (sc p x h0) at_)) (found.map (cl p (sc p x h0) at_) ++ [sc p x h0]) (P ++ [at_]) := by
  have hp0 : 0 < p := by omega
  have v0 := H.rest_v h0 hm
  have vh := sc_vec (p := p) (a := x) hp0 v0.1
  have hl : ∀ c, c < at_ → cd (sc p x h0) c = 0 := fun c hc => by rw [cd_sc, H.low h0 hm c hc, Int.zero_mul]; rfl
  have hone : cd (sc p x h0) at_ = 1 := by
    have : eqm p (cd (sc p x h0) at_) 1 := by rw [cd_sc]; exact eqm.mod hx
    exact this.eq (vh.cd hp0).1 (vh.cd hp0).2 (by omega) (by omega)
  have vf : ∀ r, Vec p n r → Vec p n (cl p (sc p x h0) at_ r) := fun r hr => cl_vec hp0 hr.1 vh.1
  have r1 : Rows p n (rest1.map (cl p (sc p x h0) at_)) := fun r hr => by
    obtain ⟨y, hy, rfl⟩ := List.mem_map.mp hr
    exact vf y (H.rest_v y (h1 y hy))
  have r2 : Rows p n (found.map (cl p (sc p x h0) at_) ++ [sc p x h0]) := Rows.app (fun r hr => by
    obtain ⟨y, hy, rfl⟩ := List.mem_map.mp hr
    exact vf y (H.rref.rows y hy)) fun r hr => by rw [List.mem_singleton.mp hr]; exact vh
  have r3 : Rows p n (found ++ rest) := H.rref.rows.app H.rest_v
  have r4 := Rows.app r2 r1
  have clz : ∀ r c, Vec p n r → c < at_ → eqm p (cd (cl p (sc p x h0) at_ r) c) (cd r c) := fun r c hr hc => (cd_cl hp0 hr.1 vh.1 c).trans (.of_eq (by rw [hl c hc]; omega))
  have cla : ∀ r, Vec p n r → cd (cl p (sc p x h0) at_ r) at_ = 0 := fun r hr => by
    refine eqm.zero ((cd_cl hp0 hr.1 vh.1 at_).trans (.of_eq (by rw [hone]; omega))) ((vf r hr).cd hp0).1 ((vf r hr).cd hp0).2
  have clc : ∀ r c, Vec p n r → c < at_ → cd (cl p (sc p x h0) at_ r) c = cd r c := fun r c hr hc =>
    (clz r c hr hc).eq ((vf r hr).cd hp0).1 ((vf r hr).cd hp0).2 (hr.cd hp0).1 (hr.cd hp0).2
  have fl : (found.map (cl p (sc p x h0) at_)).length = P.length := by rw [List.length_map, H.rref.len]
  have rwf : ∀ i, i < P.length → rw_ (found.map (cl p (sc p x h0) at_) ++ [sc p x h0]) i = cl p (sc p x h0) at_ (rw_ found i) := fun i hi => by
    rw [rw_l (by rw [fl]; exact hi), rw_map (by rw [H.rref.len]; exact hi)]
  have vr : ∀ i, i < P.length → Vec p n (rw_ found i) := fun i hi => H.rref.rows _ (rw_mem (by rw [H.rref.len]; exact hi))
  refine ⟨hn, r1, ?_, ⟨r2, by simp [H.rref.len], fun i j hij hj => ?_, fun i hi => ?_, fun i j hi hj => ?_, fun i c hi hc => ?_⟩, fun i hi => ?_, fun r hr c hc => ?_⟩
  · refine Same.trans (Same.of hp0 r4 r3 (fun r hr => ?_) fun r hr => ?_) H.same
    · have hh : Sp p n (found ++ rest) (sc p x h0) := Sp.scl hp0 r3 (Sp.mem hp0 r3 (List.mem_append_right _ hm))
      have hc : ∀ y, y ∈ found ++ rest → Sp p n (found ++ rest) (cl p (sc p x h0) at_ y) := fun y hy => Sp.add hp0 r3 (Sp.mem hp0 r3 hy) (Sp.scl hp0 r3 hh)
      rcases List.mem_append.mp hr with q | q
      · rcases List.mem_append.mp q with q | q
        · obtain ⟨y, hy, rfl⟩ := List.mem_map.mp q
          exact hc y (List.mem_append_left _ hy)
        · rw [List.mem_singleton.mp q]; exact hh
      · obtain ⟨y, hy, rfl⟩ := List.mem_map.mp q
        exact hc y (List.mem_append_right _ (h1 y hy))
    · have hh := Sp.mem hp0 r4 (List.mem_append_left _ (List.mem_append_right _ (List.mem_singleton.mpr rfl)))
      have hc : ∀ y, Vec p n y → cl p (sc p x h0) at_ y ∈ (found.map (cl p (sc p x h0) at_) ++ [sc p x h0]) ++ rest1.map (cl p (sc p x h0) at_) → Sp p n ((found.map (cl p (sc p x h0) at_) ++ [sc p x h0]) ++ rest1.map (cl p (sc p x h0) at_)) y := fun y vy hy => by
        have := Sp.add hp0 r4 (Sp.mem hp0 r4 hy) (Sp.scl (a := cd y at_) hp0 r4 hh)
        rwa [cl_back hp0 vy vh] at this
      rcases List.mem_append.mp hr with q | q
      · exact hc r (H.rref.rows r q) (List.mem_append_left _ (List.mem_append_left _ (List.mem_map.mpr ⟨r, q, rfl⟩)))
      · rcases h2 r q with rfl | q2
        · have := Sp.scl (a := cd r at_) hp0 r4 hh
          rwa [head_back hp0 v0 hx] at this
        · exact hc r (H.rest_v r q) (List.mem_append_right _ (List.mem_map.mpr ⟨r, q2, rfl⟩))
  · rw [List.length_append, List.length_singleton] at hj
    by_cases e : j < P.length
    · rw [pv_l e, pv_l (by omega)]; exact H.rref.inc i j hij e
    · rw [pv_last (i := j) (by omega), pv_l (by omega)]; exact H.lt i (by omega)
  · rw [List.length_append, List.length_singleton] at hi
    by_cases e : i < P.length
    · rw [pv_l e]; exact H.rref.lt i e
    · rw [pv_last (by omega)]; exact hn
  · rw [List.length_append, List.length_singleton] at hi hj
    by_cases e : i < P.length
    · rw [rwf i e]
      by_cases e2 : j < P.length
      · rw [pv_l e2, clc _ _ (vr i e) (H.lt j e2)]; exact H.rref.one i j e e2
      · rw [pv_last (by omega), cla _ (vr i e), if_neg (by omega)]
    · rw [rw_last (by rw [fl]; omega)]
      by_cases e2 : j < P.length
      · rw [pv_l e2, hl _ (H.lt j e2), if_neg (by omega)]
      · rw [pv_last (by omega), hone, if_pos (by omega)]
  · rw [List.length_append, List.length_singleton] at hi
    by_cases e : i < P.length
    · rw [pv_l e] at hc
      rw [rwf i e, clc _ _ (vr i e) (Nat.lt_trans hc (H.lt i e))]
      exact H.rref.low i c e hc
    · rw [pv_last (by omega)] at hc
      rw [rw_last (by rw [fl]; omega)]
      exact hl c hc
  · rw [List.length_append, List.length_singleton] at hi
    by_cases e : i < P.length
    · rw [pv_l e]; exact Nat.lt_succ_of_lt (H.lt i e)
    · rw [pv_last (by omega)]; exact Nat.lt_succ_self _
  · obtain ⟨y, hy, rfl⟩ := List.mem_map.mp hr
    have vy := H.rest_v y (h1 y hy)
    by_cases e : c = at_
    · rw [e]; exact cla y vy
    · rw [clc y c vy (by omega)]; exact H.low y (h1 y hy) c (by omega)
theorem Red.done (hp : 0 < p) {rows rest found : List (List Int)} (H : Red p n rows n rest found P) : Rref p n found P ∧ Same p n found rows := by
  refine ⟨H.rref, Same.trans (Same.of hp H.rref.rows (H.rref.rows.app H.rest_v) (fun r hr => Sp.mem hp (H.rref.rows.app H.rest_v) (List.mem_append_left _ hr)) fun r hr => ?_) H.same⟩
  rcases List.mem_append.mp hr with q | q
  · exact Sp.mem hp H.rref.rows q
  · have : r = zv n := (H.rest_v r q).ext hp (zv_vec hp) fun j hj => by rw [cd_zv, H.low r q j hj]; exact eqm.rfl'
    rw [this]; exact .zero
end
end Mp

set_option Elab.async false
set_option linter.all false
set_option maxRecDepth 100000
set_option maxHeartbeats 1000000
/-! Nf, part 3: sorted lists, keys put into a dict, loops. -/
namespace Mp
open PySem
/-! ### sorting -/
section
variable {α : Type} {lt : α → α → Bool}
/-- a strict order that tells any two apart -/
structure Tot (lt : α → α → Bool) : Prop where
  trans : ∀ a b c, lt a b = true → lt b c = true → lt a c = true
  irr : ∀ a, lt a a = false
  tri : ∀ a b, lt a b = true ∨ a = b ∨ lt b a = true
theorem insL_mem (x z : α) : ∀ l : List α, z ∈ insL lt x l ↔ z = x ∨ z ∈ l
  | [] => by simp [insL]
  | y :: l => by
    unfold insL
    cases h : lt x y
    · rw [if_neg Bool.false_ne_true, List.mem_cons, insL_mem x z l, List.mem_cons, or_left_comm]
    · simp
theorem isort_mem (z : α) : ∀ l : List α, z ∈ isort lt l ↔ z ∈ l
  | [] => by simp [isort]
  | x :: l => by unfold isort; rw [insL_mem, isort_mem z l, List.mem_cons]
theorem insL_len (x : α) : ∀ l : List α, (insL lt x l).length = l.length + 1
  | [] => rfl
  | y :: l => by
    unfold insL
    cases lt x y
    · simp [insL_len x l]
    · simp
theorem isort_len : ∀ l : List α, (isort lt l).length = l.length
  | [] => rfl
  | x :: l => by unfold isort; rw [insL_len, isort_len l]; rfl
theorem insL_sorted (T : Tot lt) (x : α) : ∀ l : List α, (∀ y ∈ l, y ≠ x) → l.Pairwise (fun a b => lt a b = true) → (insL lt x l).Pairwise (fun a b => lt a b = true)
  | [], _, _ => by simp [insL]
  | y :: l, hn, hs => by
    rw [List.pairwise_cons] at hs
    unfold insL
    cases h : lt x y
    · have hyx : lt y x = true := by
        rcases T.tri x y with q | q | q
        · rw [h] at q; cases q
        · exact absurd q.symm (hn y (List.mem_cons_self ..))
        · exact q
      refine List.pairwise_cons.mpr ⟨fun z hz => ?_, insL_sorted T x l (fun z hz => hn z (List.mem_cons_of_mem _ hz)) hs.2⟩
      rcases (insL_mem x z l).mp hz with rfl | q
      · exact hyx
      · exact hs.1 z q
    · refine List.pairwise_cons.mpr ⟨fun z hz => ?_, List.pairwise_cons.mpr hs⟩
      rcases List.mem_cons.mp hz with rfl | q
      · exact h
      · exact T.trans _ _ _ h (hs.1 z q)
theorem isort_sorted (T : Tot lt) : ∀ l : List α, l.Nodup → (isort lt l).Pairwise (fun a b => lt a b = true)
  | [], _ => .nil
  | x :: l, h => by
    rw [List.nodup_cons] at h
    unfold isort
    exact insL_sorted T x _ (fun y hy e => h.1 (e ▸ (isort_mem y l).mp hy)) (isort_sorted T l h.2)
theorem sorted_eq (T : Tot lt) : ∀ {l m : List α}, l.Pairwise (fun a b => lt a b = true) → m.Pairwise (fun a b => lt a b = true) → (∀ z, z ∈ l ↔ z ∈ m) → l = m
  | [], [], _, _, _ => rfl
  | [], b :: m, _, _, h => by have := (h b).mpr (List.mem_cons_self ..); cases this
  | a :: l, [], _, _, h => by have := (h a).mp (List.mem_cons_self ..); cases this
  | a :: l, b :: m, h1, h2, h => by
    rw [List.pairwise_cons] at h1 h2
    have e : a = b := by
      rcases List.mem_cons.mp ((h a).mp (List.mem_cons_self ..)) with q | q
      · exact q
      · rcases List.mem_cons.mp ((h b).mpr (List.mem_cons_self ..)) with q2 | q2
        · exact q2.symm
        · have := T.trans _ _ _ (h1.1 b q2) (h2.1 a q)
          rw [T.irr] at this; cases this
    subst e
    congr 1
    refine sorted_eq T h1.2 h2.2 fun z => ?_
    have hz := h z
    rw [List.mem_cons, List.mem_cons] at hz
    constructor
    · intro q
      rcases hz.mp (.inr q) with rfl | q2
      · have := h1.1 z q; rw [T.irr] at this; cases this
      · exact q2
    · intro q
      rcases hz.mpr (.inr q) with rfl | q2
      · have := h2.1 z q; rw [T.irr] at this; cases this
      · exact q2
theorem isort_eq (T : Tot lt) {l m : List α} (hl : l.Nodup) (hm : m.Nodup) (h : ∀ z, z ∈ l ↔ z ∈ m) : isort lt l = isort lt m :=
  sorted_eq T (isort_sorted T l hl) (isort_sorted T m hm) fun z => by rw [isort_mem, isort_mem]; exact h z
theorem tot_int : Tot ltI := ⟨fun a b c h1 h2 => by unfold ltI at *; simp at *; omega, fun a => by unfold ltI; simp, fun a b => by unfold ltI; simp; omega⟩
theorem tot_lex [DecidableEq α] (T : Tot lt) : Tot (lexL lt) := by
  refine ⟨?_, ?_, ?_⟩
  · intro a
    induction a with
    | nil =>
      intro b c h1 h2
      cases b with
      | nil => cases h1
      | cons y b => cases c with
        | nil => cases h2
        | cons z c => rfl
    | cons x a ih =>
      intro b c h1 h2
      cases b with
      | nil => cases h1
      | cons y b =>
        cases c with
        | nil => cases h2
        | cons z c =>
          unfold lexL at h1 h2 ⊢
          by_cases e : x = y
          · subst e
            rw [if_pos rfl] at h1
            by_cases e2 : x = z
            · subst e2; rw [if_pos rfl] at h2 ⊢; exact ih b c h1 h2
            · rw [if_neg e2] at h2 ⊢; exact h2
          · rw [if_neg e] at h1
            by_cases e2 : y = z
            · subst e2; rw [if_neg e]; exact h1
            · rw [if_neg e2] at h2
              have := T.trans _ _ _ h1 h2
              by_cases e3 : x = z
              · subst e3; rw [T.irr] at this; cases this
              · rw [if_neg e3]; exact this
  · intro a
    induction a with
    | nil => rfl
    | cons x a ih => unfold lexL; rw [if_pos rfl]; exact ih
  · intro a
    induction a with
    | nil =>
      intro b
      cases b with
      | nil => exact .inr (.inl rfl)
      | cons y b => exact .inl rfl
    | cons x a ih =>
      intro b
      cases b with
      | nil => exact .inr (.inr rfl)
      | cons y b =>
        unfold lexL
        by_cases e : x = y
        · subst e
          rw [if_pos rfl, if_pos rfl]
          rcases ih b with q | q | q
          · exact .inl q
          · exact .inr (.inl (by rw [q]))
          · exact .inr (.inr q)
        · rw [if_neg e, if_neg (fun q => e q.symm)]
          rcases T.tri x y with q | q | q
          · exact .inl q
          · exact absurd q e
          · exact .inr (.inr q)
end
/-! ### keys -/
section
variable {α β κ : Type} [DecidableEq κ]
def put (ks : List κ) (x : κ) : List κ := if x ∈ ks then ks else ks ++ [x]
theorem put_mem {ks : List κ} {x z : κ} : z ∈ put ks x ↔ z ∈ ks ∨ z = x := by
  unfold put
  split
  · rename_i h
    exact ⟨.inl, fun q => q.elim id fun e => e ▸ h⟩
  · simp
theorem put_nodup {ks : List κ} {x : κ} (h : ks.Nodup) : (put ks x).Nodup := by
  unfold put
  split
  · exact h
  · rename_i hn
    rw [List.nodup_append]
    refine ⟨h, by simp, fun a ha b hb e => ?_⟩
    rw [List.mem_singleton.mp hb] at e
    exact hn (e ▸ ha)
theorem puts_mem {z : κ} : ∀ {l ks : List κ}, z ∈ l.foldl put ks ↔ z ∈ ks ∨ z ∈ l
  | [], ks => by simp
  | x :: l, ks => by rw [List.foldl_cons, puts_mem, put_mem, List.mem_cons, or_assoc]
theorem puts_nodup : ∀ {l ks : List κ}, ks.Nodup → (l.foldl put ks).Nodup
  | [], ks, h => h
  | x :: l, ks, h => by rw [List.foldl_cons]; exact puts_nodup (put_nodup h)
theorem puts_all : ∀ {l ks : List κ}, (ks ++ l).Nodup → l.foldl put ks = ks ++ l
  | [], ks, h => by simp
  | x :: l, ks, h => by
    have hx : x ∉ ks := by
      rw [List.nodup_append] at h
      exact fun q => h.2.2 x q x (List.mem_cons_self ..) rfl
    rw [List.foldl_cons, show put ks x = ks ++ [x] by unfold put; rw [if_neg hx], puts_all (by simpa using h)]
    simp
theorem puts_len : ∀ {l ks : List κ}, (l.foldl put ks).length ≤ ks.length + l.length
  | [], ks => Nat.le_refl _
  | x :: l, ks => by
    have h1 := puts_len (l := l) (ks := put ks x)
    have h2 : (put ks x).length ≤ ks.length + 1 := by unfold put; split <;> simp
    rw [List.foldl_cons, List.length_cons]; omega
def ksOf (l : List (κ × β)) : List κ := l.map (·.1)
theorem dput_ok {l : List (κ × β)} {x : κ} {v : β} (h : l.length < lim) : ∃ l', oDPut l x v = M.ok l' ∧ ksOf l' = put (ksOf l) x := by
  unfold oDPut
  rw [if_pos h]
  refine ⟨_, rfl, ?_⟩
  unfold put ksOf
  split
  · rw [List.map_map]
    apply List.map_congr_left
    intro p hp
    show (if p.1 = x then (p.1, v) else p).1 = p.1
    split <;> rfl
  · simp
theorem ks_len {l : List (κ × β)} : (ksOf l).length = l.length := by simp [ksOf]
/-- keys put in, one for each turn -/
theorem putFor {f : α → List (κ × β) → M (List (κ × β))} {h : α → κ} {l : List α} (hf : ∀ a ∈ l, ∀ s, s.length < lim → ∃ s', f a s = M.ok s' ∧ ksOf s' = put (ksOf s) (h a)) :
    ∀ s, s.length + l.length ≤ lim → ∃ s', tForS f l s = M.ok s' ∧ ksOf s' = (l.map h).foldl put (ksOf s) := by
  induction l with
  | nil => exact fun s _ => ⟨s, rfl, rfl⟩
  | cons a l ih =>
    intro s hs
    rw [List.length_cons] at hs
    obtain ⟨s1, h1, h2⟩ := hf a (List.mem_cons_self ..) s (by omega)
    have h3 : s1.length ≤ s.length + 1 := by
      rw [← ks_len, h2, ← ks_len]; unfold put; split <;> simp
    obtain ⟨s2, h4, h5⟩ := ih (fun b hb => hf b (List.mem_cons_of_mem _ hb)) s1 (by omega)
    exact ⟨s2, by rw [tForS, h1, nf_bind, h4], by rw [h5, h2]; rfl⟩
theorem putFor2 {γ : Type} {f : α → List (κ × β) → M (List (κ × β))} {h : α → List κ} {m : Nat} {l : List α} (hm : ∀ a ∈ l, (h a).length = m) (hf : ∀ a ∈ l, ∀ s, s.length + m ≤ lim → ∃ s', f a s = M.ok s' ∧ ksOf s' = (h a).foldl put (ksOf s)) :
    ∀ s, s.length + l.length * m ≤ lim → ∃ s', tForS f l s = M.ok s' ∧ ksOf s' = (l.flatMap h).foldl put (ksOf s) := by
  induction l with
  | nil => exact fun s _ => ⟨s, rfl, rfl⟩
  | cons a l ih =>
    intro s hs
    rw [List.length_cons, Nat.add_mul, Nat.one_mul] at hs
    obtain ⟨s1, h1, h2⟩ := hf a (List.mem_cons_self ..) s (by omega)
    have h3 : s1.length ≤ s.length + m := by
      have := puts_len (l := h a) (ks := ksOf s)
      rw [← h2, ks_len, ks_len, hm a (List.mem_cons_self ..)] at this; exact this
    obtain ⟨s2, h4, h5⟩ := ih (fun b hb => hm b (List.mem_cons_of_mem _ hb)) (fun b hb => hf b (List.mem_cons_of_mem _ hb)) s1 (by omega)
    exact ⟨s2, by rw [tForS, h1, nf_bind, h4], by rw [h5, h2, List.flatMap_cons, List.foldl_append]⟩
end
/-! ### loops -/
section
variable {α β γ σ : Type}
theorem forC {f : α → σ → M (TO σ β)} (I : Nat → σ → Prop) : ∀ {l : List α} {s : σ} (i : Nat), I i s → (∀ j a s, l[j]? = some a → I (i + j) s → ∃ s', f a s = M.ok (.nx s') ∧ I (i + j + 1) s') → ∃ s', tFor f l s = M.ok (.nx s') ∧ I (i + l.length) s'
  | [], s, i, h, _ => ⟨s, rfl, h⟩
  | a :: l, s, i, h, hf => by
    obtain ⟨s1, h1, h2⟩ := hf 0 a s rfl h
    obtain ⟨s2, h3, h4⟩ := forC (f := f) (l := l) I (i + 1) h2 fun j b s hb hI => by
      have := hf (j + 1) b s (by simpa using hb) (by rw [show i + (j + 1) = i + 1 + j by omega]; exact hI)
      rw [show i + (j + 1) + 1 = i + 1 + j + 1 by omega] at this
      exact this
    refine ⟨s2, ?_, by rw [List.length_cons, show i + (l.length + 1) = i + 1 + l.length by omega]; exact h4⟩
    rw [tFor, h1, nf_bind]; exact h3
theorem forC_after {n : Nat} {f : Int → σ → M (TO σ β)} {k : σ → M γ} {r : β → M γ} {s : σ} (Q : M γ → Prop) (I : Nat → σ → Prop) (h0 : I 0 s) (step : ∀ (j : Nat) s, j < n → I j s → ∃ s', f (j : Int) s = M.ok (.nx s') ∧ I (j + 1) s')
    (fin : ∀ s, I n s → Q (k s)) : Q (tAfter (tFor f ((List.range n).map fun (k : Nat) => (k : Int)) s) k r) := by
  obtain ⟨s', h1, h2⟩ := forC (f := f) I (l := (List.range n).map fun (k : Nat) => (k : Int)) (s := s) 0 h0 fun j a s hj hI => by
    rw [Nat.zero_add] at *; obtain ⟨h1, rfl⟩ := rng_get hj; exact step j s h1 hI
  rw [h1, nf_afterN]
  exact fin s' (by rw [Nat.zero_add, List.length_map, List.length_range] at h2; exact h2)
/-- a loop that draws -/
theorem run_forS {f : α → σ → M σ} {P : Rg → Prop} (I : Nat → σ → Prop) : ∀ {l : List α} {s : σ} {rs : Rg} (i : Nat), P rs → I i s → (∀ j a s rs, l[j]? = some a → P rs → I (i + j) s → ∃ s' rs', f a s rs = .ok s' rs' ∧ P rs' ∧ I (i + j + 1) s') →
    ∃ s' rs', tForS f l s rs = .ok s' rs' ∧ P rs' ∧ I (i + l.length) s'
  | [], s, rs, i, hp, h, _ => ⟨s, rs, rfl, hp, h⟩
  | a :: l, s, rs, i, hp, h, hf => by
    obtain ⟨s1, rs1, h1, hp1, h2⟩ := hf 0 a s rs rfl hp h
    obtain ⟨s2, rs2, h3, hp2, h4⟩ := run_forS (f := f) (l := l) I (i + 1) hp1 h2 fun j b s rs hb hp hI => by
      have := hf (j + 1) b s rs (by simpa using hb) hp (by rw [show i + (j + 1) = i + 1 + j by omega]; exact hI)
      rw [show i + (j + 1) + 1 = i + 1 + j + 1 by omega] at this
      exact this
    refine ⟨s2, rs2, ?_, hp2, by rw [List.length_cons, show i + (l.length + 1) = i + 1 + l.length by omega]; exact h4⟩
    rw [tForS, run_bind h1]; exact h3
end
end Mp

set_option Elab.async false
set_option linter.all false
set_option maxRecDepth 100000
set_option maxHeartbeats 4000000
/-! La, part 4: sums over lists, products of words, words at right angles. -/
namespace Mp
open PySem
theorem fm' {a p : Int} (hp : 0 < p) : a.fmod p = a % p := Int.fmod_eq_emod_of_nonneg a (by omega)
/-! ### sums -/
def lsum {α : Type} (f : α → Int) : List α → Int
  | [] => 0
  | a :: l => f a + lsum f l
section
variable {α β : Type} {f g : α → Int} {c : Int}
theorem lsum_congr : ∀ {l : List α}, (∀ a ∈ l, f a = g a) → lsum f l = lsum g l
  | [], _ => rfl
  | a :: l, h => by unfold lsum; rw [h a (List.mem_cons_self ..), lsum_congr fun b hb => h b (List.mem_cons_of_mem _ hb)]
theorem lsum_add : ∀ {l : List α}, lsum (fun a => f a + g a) l = lsum f l + lsum g l
  | [] => rfl
  | a :: l => by unfold lsum; rw [lsum_add]; omega
theorem lsum_sub : ∀ {l : List α}, lsum (fun a => f a - g a) l = lsum f l - lsum g l
  | [] => rfl
  | a :: l => by unfold lsum; rw [lsum_sub]; omega
theorem lsum_mul : ∀ {l : List α}, lsum (fun a => c * f a) l = c * lsum f l
  | [] => by simp [lsum]
  | a :: l => by unfold lsum; rw [lsum_mul, Int.mul_add]
theorem lsum_zero : ∀ {l : List α}, lsum (fun _ => 0) l = 0
  | [] => rfl
  | a :: l => by unfold lsum; rw [lsum_zero]; rfl
theorem lsum_const : ∀ {l : List α}, lsum (fun _ => c) l = c * (l.length : Int)
  | [] => by simp [lsum]
  | a :: l => by unfold lsum; rw [lsum_const, List.length_cons, Int.natCast_add, Int.mul_add]; simp; omega
theorem lsum_swap {h : α → β → Int} : ∀ {l : List α} {m : List β}, lsum (fun a => lsum (h a) m) l = lsum (fun b => lsum (fun a => h a b) l) m
  | [], m => by simp [lsum, lsum_zero]
  | a :: l, m => by
    show lsum (h a) m + lsum (fun a => lsum (h a) m) l = _
    rw [lsum_swap, ← lsum_add]
    rfl
theorem lsum_filter {P : α → Bool} : ∀ {l : List α}, lsum f (l.filter P) = lsum (fun a => if P a then f a else 0) l
  | [] => rfl
  | a :: l => by
    show _ = (if P a then f a else 0) + lsum (fun a => if P a then f a else 0) l
    rw [List.filter_cons, ← lsum_filter]
    cases h : P a
    · simp
    · simp only [if_true]; rfl
theorem lsum_count {P : α → Bool} {l : List α} : lsum (fun a => if P a then 1 else 0) l = ((l.filter P).length : Int) := by
  rw [← lsum_filter, lsum_const]; omega
theorem lsum_snoc : ∀ {l : List α} {a : α}, lsum f (l ++ [a]) = lsum f l + f a
  | [], a => by simp [lsum]
  | b :: l, a => by show f b + lsum f (l ++ [a]) = f b + lsum f l + f a; rw [lsum_snoc]; omega
theorem lsum_sum : ∀ {l : List α}, (l.map f).sum = lsum f l
  | [] => rfl
  | a :: l => by rw [List.map_cons, List.sum_cons, lsum_sum]; rfl
theorem lsum_nonneg : ∀ {l : List α}, (∀ a ∈ l, 0 ≤ f a) → 0 ≤ lsum f l
  | [], _ => Int.le_refl _
  | a :: l, h => by
    unfold lsum
    have := h a (List.mem_cons_self ..)
    have := lsum_nonneg fun b hb => h b (List.mem_cons_of_mem _ hb)
    omega
theorem lsum_pos {a : α} {l : List α} (ha : a ∈ l) (h : ∀ a ∈ l, 0 ≤ f a) (h1 : 0 < f a) : 0 < lsum f l := by
  induction l with
  | nil => cases ha
  | cons b l ih =>
    unfold lsum
    have h2 := h b (List.mem_cons_self ..)
    have h3 := lsum_nonneg fun b hb => h b (List.mem_cons_of_mem _ hb)
    rcases List.mem_cons.mp ha with rfl | ha
    · omega
    · have := ih ha fun b hb => h b (List.mem_cons_of_mem _ hb); omega
end
theorem sm_congr' {f g : Nat → Int} : ∀ {k : Nat}, (∀ i, i < k → f i = g i) → sm f k = sm g k
  | 0, _ => rfl
  | k + 1, h => by unfold sm; rw [sm_congr' fun i hi => h i (by omega), h k (by omega)]
theorem sm_mulL {f : Nat → Int} {a : Int} : ∀ {k : Nat}, sm (fun i => a * f i) k = a * sm f k
  | 0 => by simp [sm]
  | k + 1 => by unfold sm; rw [sm_mulL, Int.mul_add]
theorem sm_swap {g : Nat → Nat → Int} {m : Nat} : ∀ {k : Nat}, sm (fun i => sm (fun j => g i j) m) k = sm (fun j => sm (fun i => g i j) k) m
  | 0 => (sm_zero (k := m)).symm
  | k + 1 => by
    show sm (fun i => sm (fun j => g i j) m) k + sm (fun j => g k j) m = _
    rw [sm_swap, ← sm_add]
    rfl
theorem sm_lsum {α : Type} {g : Nat → α → Int} {l : List α} : ∀ {k : Nat}, sm (fun i => lsum (g i) l) k = lsum (fun a => sm (fun i => g i a) k) l
  | 0 => (lsum_zero (l := l)).symm
  | k + 1 => by
    show sm (fun i => lsum (g i) l) k + lsum (g k) l = _
    rw [sm_lsum, ← lsum_add]
    rfl
theorem sum_range (f : Nat → Int) : ∀ n : Nat, ((List.range n).map f).sum = sm f n
  | 0 => rfl
  | n + 1 => by rw [List.range_succ, List.map_append, List.sum_append, sum_range f n]; simp [sm]
/-- how many of l have the number i -/
def cnt {α : Type} (w : α → Nat) (l : List α) (i : Nat) : Int := lsum (fun x => if w x = i then 1 else 0) l
theorem sm_cnt {α : Type} {w : α → Nat} {l : List α} {n : Nat} {K : Nat → Int} (h : ∀ x ∈ l, w x < n) : sm (fun i => cnt w l i * K i) n = lsum (fun x => K (w x)) l := by
  have e : sm (fun i => cnt w l i * K i) n = sm (fun i => lsum (fun x => if w x = i then K i else 0) l) n := sm_congr' fun i _ => by
    unfold cnt
    rw [Int.mul_comm, ← lsum_mul]
    exact lsum_congr fun a _ => by split <;> simp
  rw [e, sm_lsum]
  refine lsum_congr fun x hx => ?_
  rw [sm_single (j := w x) (h x hx) fun i _ hi => if_neg (Ne.symm hi), if_pos rfl]
theorem sm_cnt1 {α : Type} {w : α → Nat} {l : List α} {n : Nat} (h : ∀ x ∈ l, w x < n) : sm (cnt w l) n = (l.length : Int) := by
  have := sm_cnt (K := fun _ => 1) h
  simp only [Int.mul_one] at this
  rw [this, lsum_const]; omega
theorem cnt_nonneg {α : Type} {w : α → Nat} {l : List α} {i : Nat} : 0 ≤ cnt w l i := lsum_nonneg fun a _ => by split <;> omega
theorem inj_len {α β : Type} [DecidableEq β] {φ : α → β} : ∀ {A : List α} {B : List β}, A.Nodup → (∀ a ∈ A, φ a ∈ B) → (∀ a ∈ A, ∀ b ∈ A, φ a = φ b → a = b) → A.length ≤ B.length
  | [], B, _, _, _ => Nat.zero_le _
  | a :: A, B, hn, hm, hi => by
    rw [List.nodup_cons] at hn
    have ha := hm a (List.mem_cons_self ..)
    have := inj_len (φ := φ) (A := A) (B := B.erase (φ a)) hn.2 (fun b hb => (List.mem_erase_of_ne fun e => hn.1 (hi b (List.mem_cons_of_mem _ hb) a (List.mem_cons_self ..) e ▸ hb)).mpr (hm b (List.mem_cons_of_mem _ hb)))
      fun b hb c hc => hi b (List.mem_cons_of_mem _ hb) c (List.mem_cons_of_mem _ hc)
    rw [List.length_erase_of_mem ha] at this
    have := List.length_pos_of_mem ha
    rw [List.length_cons]; omega
/-! ### products of words -/
def dotP (n : Nat) (x y : List Int) : Int := sm (fun k => cd x k * cd y k) n
section
variable {p a : Int} {n : Nat} {v w y : List Int}
theorem dotP_ad (h : v.length = w.length) : eqm p (dotP n (ad p v w) y) (dotP n v y + dotP n w y) := by
  unfold dotP
  rw [← sm_add]
  refine sm_congr fun i _ => ?_
  rw [cd_ad h, ← Int.add_mul]
  exact eqm.mul (eqm.mod eqm.rfl') eqm.rfl'
theorem dotP_sc : eqm p (dotP n (sc p a v) y) (dotP n v y * a) := by
  unfold dotP
  rw [← sm_mul]
  refine sm_congr fun i _ => ?_
  rw [cd_sc]
  exact (eqm.mul (eqm.mod eqm.rfl') eqm.rfl').trans (.of_eq (by rw [Int.mul_assoc, Int.mul_comm a, ← Int.mul_assoc]))
theorem dotP_zv : dotP n (zv n) y = 0 := by
  unfold dotP
  exact (sm_congr' fun i _ => by rw [cd_zv, Int.zero_mul]).trans sm_zero
theorem ad_inj {u : List Int} (hp : 0 < p) (hv : Vec p n v) (hw : Vec p n w) (hu : u.length = n) (e : ad p v u = ad p w u) : v = w := by
  refine hv.ext hp hw fun j _ => ?_
  have ej := congrArg (fun x => cd x j) e
  rw [cd_ad (hv.1.trans hu.symm), cd_ad (hw.1.trans hu.symm)] at ej
  have e2 : eqm p (cd v j + cd u j) (cd w j + cd u j) := ej
  have := eqm.sub e2 (eqm.rfl' (a := cd u j))
  exact (eqm.of_eq (by omega)).trans (this.trans (.of_eq (by omega)))
end
theorem inv_ex {p c : Int} (hp : p ∈ primes) (h0 : 0 < c) (h1 : c < p) : ∃ a, (c * a) % p = 1 := by
  simp only [primes, List.mem_cons, List.not_mem_nil, or_false] at hp
  rcases hp with rfl | rfl | rfl | rfl
  · have : c = 1 := by omega
    subst this; exact ⟨1, rfl⟩
  · have : c = 1 ∨ c = 2 := by omega
    rcases this with rfl | rfl
    · exact ⟨1, rfl⟩
    · exact ⟨2, rfl⟩
  · have : c = 1 ∨ c = 2 ∨ c = 3 ∨ c = 4 := by omega
    rcases this with rfl | rfl | rfl | rfl
    · exact ⟨1, rfl⟩
    · exact ⟨3, rfl⟩
    · exact ⟨2, rfl⟩
    · exact ⟨4, rfl⟩
  · have : c = 1 ∨ c = 2 ∨ c = 3 ∨ c = 4 ∨ c = 5 ∨ c = 6 := by omega
    rcases this with rfl | rfl | rfl | rfl | rfl | rfl
    · exact ⟨1, rfl⟩
    · exact ⟨4, rfl⟩
    · exact ⟨5, rfl⟩
    · exact ⟨2, rfl⟩
    · exact ⟨3, rfl⟩
    · exact ⟨6, rfl⟩
/-- a list of all words of a code -/
structure IsCode (p : Int) (n : Nat) (W : List (List Int)) : Prop where
  nd : W.Nodup
  vec : ∀ x ∈ W, Vec p n x
  zero : zv n ∈ W
  add : ∀ x ∈ W, ∀ y ∈ W, ad p x y ∈ W
  scl : ∀ x ∈ W, ∀ a, sc p a x ∈ W
def chi (p c : Int) : Int := (if c % p = 0 then 1 else 0) - (if c % p = 1 then 1 else 0)
def perp (p : Int) (n : Nat) (W : List (List Int)) (y : List Int) : Bool := W.all fun x => decide (dotP n x y % p = 0)
section
variable {p : Int} {n : Nat} {W : List (List Int)}
theorem IsCode.len (hp : p ∈ primes) (C : IsCode p n W) {x : List Int} (hx : x ∈ W) : x.length = n := (C.vec x hx).1
/-- the words of a code by their product with y -/
theorem IsCode.uni (hp : p ∈ primes) (C : IsCode p n W) (y : List Int) : lsum (fun x => chi p (dotP n x y)) W = if perp p n W y then (W.length : Int) else 0 := by
  have hp1 := prime_lt hp
  have hp0 : 0 < p := by omega
  by_cases h : perp p n W y = true
  · rw [if_pos h]
    unfold perp at h
    rw [List.all_eq_true] at h
    rw [lsum_congr (g := fun _ => 1) fun x hx => ?_]
    · rw [lsum_const]; omega
    · have := h x hx
      rw [decide_eq_true_eq] at this
      unfold chi
      rw [this]; rfl
  · rw [if_neg h]
    have hx : ∃ x ∈ W, dotP n x y % p ≠ 0 := by
      apply Classical.byContradiction
      intro z
      apply h
      unfold perp
      rw [List.all_eq_true]
      intro x hx
      rw [decide_eq_true_eq]
      apply Classical.byContradiction
      intro q
      exact z ⟨x, hx, q⟩
    obtain ⟨x0, hx0, hd⟩ := hx
    have c0 := Int.emod_nonneg (dotP n x0 y) (show p ≠ 0 by omega)
    have c1 := Int.emod_lt_of_pos (dotP n x0 y) hp0
    obtain ⟨a, ha⟩ := inv_ex hp (c := dotP n x0 y % p) (by omega) c1
    have hu := C.scl x0 hx0 a
    have du : eqm p (dotP n (sc p a x0) y) 1 := by
      refine dotP_sc.trans ?_
      have : eqm p (dotP n x0 y * a) (dotP n x0 y % p * a) := eqm.mul (eqm.mod eqm.rfl').symm eqm.rfl'
      refine this.trans ?_
      show _ % p = 1 % p
      rw [ha, Int.emod_eq_of_lt (by omega) (by omega)]
    generalize sc p a x0 = u at hu du
    have hul := (C.vec u hu).1
    have hw := C.scl u hu (p - 1)
    have dw : eqm p (dotP n (sc p (p - 1) u) y) (-1) := by
      refine dotP_sc.trans ((eqm.mul du eqm.rfl').trans ?_)
      show (1 * (p - 1)) % p = (-1) % p
      rw [Int.one_mul, show p - 1 = -1 + p from by omega, Int.add_emod_right]
    have hwl := (C.vec _ hw).1
    generalize sc p (p - 1) u = w at hw dw hwl
    have one : (1 : Int) % p = 1 := Int.emod_eq_of_lt (by omega) (by omega)
    have le1 : (W.filter fun x => decide (dotP n x y % p = 0)).length ≤ (W.filter fun x => decide (dotP n x y % p = 1)).length := inj_len (φ := fun x => ad p x u) (C.nd.filter _) (fun x hx => by
      obtain ⟨hx, hz⟩ := List.mem_filter.mp hx
      rw [decide_eq_true_eq] at hz
      refine List.mem_filter.mpr ⟨C.add x hx u hu, ?_⟩
      rw [decide_eq_true_eq]
      have hz : eqm p (dotP n x y) 0 := by unfold eqm; rw [hz]; rfl
      have := (dotP_ad (n := n) (y := y) ((C.vec x hx).1.trans hul.symm)).trans (hz.add du)
      exact Eq.trans (b := 1 % p) (this.trans (.of_eq (by omega))) one) fun x hx z hz e => ad_inj hp0 (C.vec x (List.mem_filter.mp hx).1) (C.vec z (List.mem_filter.mp hz).1) hul e
    have le2 : (W.filter fun x => decide (dotP n x y % p = 1)).length ≤ (W.filter fun x => decide (dotP n x y % p = 0)).length := inj_len (φ := fun x => ad p x w) (C.nd.filter _) (fun x hx => by
      obtain ⟨hx, hz⟩ := List.mem_filter.mp hx
      rw [decide_eq_true_eq] at hz
      refine List.mem_filter.mpr ⟨C.add x hx w hw, ?_⟩
      rw [decide_eq_true_eq]
      have hz : eqm p (dotP n x y) 1 := by unfold eqm; rw [hz, one]
      have := (dotP_ad (n := n) (y := y) ((C.vec x hx).1.trans hwl.symm)).trans (hz.add dw)
      exact Eq.trans (b := 0 % p) (this.trans (.of_eq (by omega))) (by simp)) fun x hx z hz e => ad_inj hp0 (C.vec x (List.mem_filter.mp hx).1) (C.vec z (List.mem_filter.mp hz).1) hwl e
    unfold chi
    rw [lsum_sub]
    have k1 := lsum_count (P := fun x => decide (dotP n x y % p = 0)) (l := W)
    have k2 := lsum_count (P := fun x => decide (dotP n x y % p = 1)) (l := W)
    simp only [decide_eq_true_eq] at k1 k2
    rw [k1, k2]
    omega
/-- the numbers of the words of a code by weight, turned -/
theorem IsCode.turn (hp : p ∈ primes) (C : IsCode p n W) {Y : List (List Int)} {wt : List Int → Nat} {K : Nat → Int} {j m : Nat} (hw : ∀ x ∈ W, wt x < m) (hK : ∀ x ∈ W, K (wt x) = lsum (fun y => if wt y = j then chi p (dotP n x y) else 0) Y) :
    sm (fun i => cnt wt W i * K i) m = (W.length : Int) * cnt wt (Y.filter (perp p n W)) j := by
  rw [sm_cnt hw, lsum_congr hK, lsum_swap]
  unfold cnt
  rw [lsum_filter, ← lsum_mul]
  refine lsum_congr fun y _ => ?_
  by_cases hj : wt y = j
  · simp only [hj, if_true]
    rw [C.uni hp y]
    split <;> simp
  · simp only [hj, if_false]
    rw [lsum_zero]
    split <;> simp
end
end Mp

set_option Elab.async false
set_option linter.all false
set_option maxRecDepth 100000
set_option maxHeartbeats 4000000
/-! Nf, part 4: computations that do not look at the register. -/
namespace Mp
open PySem
def Pur {α : Type} (t : M α) : Prop := (∃ a, t = M.ok a) ∨ t = M.stuck ∨ ∃ c d, t = M.exc c d
section
variable {α β γ δ σ : Type}
theorem Pur.of {t : M α} {a : α} {rs' : Rg} (h : Pur t) (e : t none = .ok a rs') : t = M.ok a := by
  rcases h with ⟨b, rfl⟩ | rfl | ⟨c, d, rfl⟩
  · cases e; rfl
  · cases e
  · cases e
/-- by a look at one run -/
def okIs [DecidableEq α] (t : M α) (a : α) : Bool := match t none with | .ok b _ => decide (b = a) | _ => false
theorem Pur.is [DecidableEq α] {t : M α} {a : α} (h : Pur t) (e : okIs t a = true) : t = M.ok a := by
  unfold okIs at e
  split at e
  · rename_i b rs' q
    rw [decide_eq_true_eq] at e
    subst e
    exact h.of q
  · cases e
theorem pur_ok {a : α} : Pur (M.ok a) := .inl ⟨a, rfl⟩
theorem pur_stuck : Pur (M.stuck : M α) := .inr (.inl rfl)
theorem pur_exc {c : Nat} {d : D} : Pur (M.exc c d : M α) := .inr (.inr ⟨c, d, rfl⟩)
theorem pur_bind {m : M α} {f : α → M β} (h : Pur m) (k : ∀ a, Pur (f a)) : Pur (M.bind m f) := by
  rcases h with ⟨a, rfl⟩ | rfl | ⟨c, d, rfl⟩
  · exact k a
  · exact pur_stuck
  · exact pur_exc
theorem pur_nox {m : M α} (h : Pur m) : Pur (M.nox m) := by
  rcases h with ⟨a, rfl⟩ | rfl | ⟨c, d, rfl⟩
  · exact pur_ok
  · exact pur_stuck
  · exact pur_stuck
theorem pur_ite {c : Prop} [Decidable c] {a b : M α} (h1 : Pur a) (h2 : Pur b) : Pur (if c then a else b) := by split <;> assumption
theorem pur_opt {o : Option α} : Pur (M.opt o) := by cases o; exact pur_stuck; exact pur_ok
theorem pur_if {c : M Bool} {a b : M α} (h : Pur c) (h1 : Pur a) (h2 : Pur b) : Pur (tIf c a b) := pur_bind h fun z => by cases z; exact h2; exact h1
theorem pur_B1 {f : α → M β} {a : M α} (h : Pur a) (k : ∀ x, Pur (f x)) : Pur (tB1 f a) := pur_bind h k
theorem pur_B2 {f : α → β → M γ} {a : M α} {b : M β} (h : Pur a) (h2 : Pur b) (k : ∀ x y, Pur (f x y)) : Pur (tB2 f a b) := pur_bind h fun x => pur_bind h2 fun y => k x y
theorem pur_and {a b : M Bool} (h : Pur a) (h2 : Pur b) : Pur (tAnd a b) := pur_if h h2 pur_ok
theorem pur_or {a b : M Bool} (h : Pur a) (h2 : Pur b) : Pur (tOr a b) := pur_if h pur_ok h2
theorem pur_forS {f : α → σ → M σ} (h : ∀ a s, Pur (f a s)) : ∀ (l : List α) (s : σ), Pur (tForS f l s)
  | [], s => pur_ok
  | a :: l, s => pur_bind (h a s) fun s' => pur_forS h l s'
theorem pur_map {f : α → M β} (h : ∀ a, Pur (f a)) : ∀ l : List α, Pur (tMap f l)
  | [] => pur_ok
  | a :: l => pur_bind (h a) fun _ => pur_bind (pur_map h l) fun _ => pur_ok
theorem pur_mapO {f : α → M (Option β)} (h : ∀ a, Pur (f a)) : ∀ l : List α, Pur (tMapO f l)
  | [] => pur_ok
  | a :: l => pur_bind (h a) fun _ => pur_bind (pur_mapO h l) fun _ => pur_ok
theorem pur_comp {f : α → M β} {m : M (List α)} (hm : Pur m) (h : ∀ a, Pur (f a)) : Pur (tComp m f) := pur_bind hm fun l => pur_ite (pur_nox (pur_map h l)) pur_stuck
theorem pur_compI {f : α → M β} {c : α → M Bool} {m : M (List α)} (hm : Pur m) (hc : ∀ a, Pur (c a)) (h : ∀ a, Pur (f a)) : Pur (tCompI m c f) :=
  pur_bind hm fun l => pur_ite (pur_nox (pur_mapO (fun a => pur_bind (hc a) fun z => pur_ite (pur_bind (h a) fun _ => pur_ok) pur_ok) l)) pur_stuck
theorem pur_lo : ∀ {l : List (M α)}, (∀ m ∈ l, Pur m) → Pur (tListOf l)
  | [], _ => pur_ok
  | m :: l, h => pur_bind (h m (List.mem_cons_self ..)) fun _ => pur_bind (pur_lo fun x hx => h x (List.mem_cons_of_mem _ hx)) fun _ => pur_ok
theorem pur_d0 : Pur (tDisp ([] : List (M α))) := pur_ok
theorem pur_d1 {m : M α} (h : Pur m) : Pur (tDisp [m]) := by
  rcases h with ⟨a, rfl⟩ | rfl | ⟨c, d, rfl⟩
  · exact .inl ⟨_, rfl⟩
  · exact .inr (.inl rfl)
  · exact .inr (.inr ⟨_, _, rfl⟩)
theorem pur_mul {x y : Int} : Pur (oMul x y) := by unfold oMul; exact pur_ite pur_ok pur_stuck
theorem pur_div {x y : Int} : Pur (oDiv x y) := by unfold oDiv; exact pur_ite pur_ok pur_stuck
theorem pur_mod {x y : Int} : Pur (oMod x y) := by unfold oMod; exact pur_ite pur_ok pur_stuck
theorem pur_cat {x y : List α} : Pur (oCat x y) := by unfold oCat; exact pur_ite pur_ok pur_stuck
theorem pur_rng1 {x : Int} : Pur (oRng1 x) := by unfold oRng1; exact pur_ite pur_ok pur_stuck
theorem pur_app {l : List α} {v : α} : Pur (oApp l v) := by unfold oApp; exact pur_ite pur_ok pur_stuck
theorem pur_set {l : List α} {k : Int} {v : α} : Pur (oSet l k v) := by unfold oSet; split; exact pur_ok; exact pur_stuck
theorem pur_ix {l : List α} {k : Int} : Pur (oIx l k) := pur_opt
end
end Mp

set_option Elab.async false
set_option linter.all false
set_option maxRecDepth 100000
set_option maxHeartbeats 4000000
namespace Law
open PySem Mp

/-- slots of is_integer: value -/
def b_is_integer : Ss := (.cons (.ret (.and (.isi (.slot 0) [.int]) (.not (.isi (.slot 0) [.bool]))))
 .nil)
@[irreducible] def g_is_integer (value0 : D) : M Bool :=
 (tAnd (tB1 (oIsi [.int]) (M.ok value0)) (tB1 oNot (tB1 (oIsi [.bool]) (M.ok value0))))
theorem s_is_integer {G : Cfg} (value0 : D) : SK (RF D.bl) G (b_is_integer) [] ([some (.d (id value0))] : Mp.Env) (g_is_integer value0) := by
 unfold b_is_integer g_is_integer
 exact (sk_retF (ev_and (ev_isiD (ev_slot rfl)) (ev_not (ev_isiD (ev_slot rfl)))))
/-- slots of binomial: n k total i -/
def b_binomial : Ss := (.cons (.if_ (.or (.cmp .lt (.slot 1) (.kint 0)) (.cmp .gt (.slot 1) (.slot 0)))
 (.cons (.ret (.kint 0))
 .nil)
 .nil)
 (.cons (.set 2 (.kint 1))
 (.cons (.for_ [3] (.rng1 (.slot 1))
 (.cons (.set 2 (.bin .fdiv (.bin .mul (.slot 2) (.bin .sub (.slot 0) (.slot 3))) (.bin .add (.slot 3) (.kint 1))))
 .nil))
 (.cons (.ret (.slot 2))
 .nil))))
@[irreducible] def g_binomial (n0 : Int) (k0 : Int) : M Int :=
 (tIf (tOr (tB2 oLt (M.ok k0) (M.ok 0)) (tB2 oGt (M.ok k0) (M.ok n0)))
 ((M.ok 0))
 ((M.bind (M.ok 1) fun total1 =>
 (M.bind (tB1 oRng1 (M.ok k0)) fun l => M.bind (tForS (fun x3 (s2 : Int) =>
 (M.bind (tB2 oDiv (tB2 oMul (M.ok s2) (tB2 oSub (M.ok n0) (M.ok x3))) (tB2 oAdd (M.ok x3) (M.ok 1))) fun total4 =>
 (M.ok total4))) l total1) fun s2 =>
 (M.ok s2)))))
theorem s_binomial {G : Cfg} (n0 : Int) (k0 : Int) : SK (RF D.int) G (b_binomial) [] ([some (.d (D.int n0)), some (.d (D.int k0)), none, none] : Mp.Env) (g_binomial n0 k0) := by
 unfold b_binomial g_binomial
 exact (sk_if (ev_or (ev_cmp (e1 := D.int) (e2 := D.int) c_lt (ev_slot rfl) ev_int) (ev_cmp (e1 := D.int) (e2 := D.int) c_gt (ev_slot rfl) (ev_slot rfl)))
 (sk_retF ev_int)
 (sk_pop (sk_set ev_int fun total1 => sk_env (ρ' := ([some (.d (D.int n0)), some (.d (D.int k0)), some (.d (D.int total1)), none] : Mp.Env)) rfl
 (sk_forS (fun (s2 : Int) ρ => ∃ o2_3 : Option SV, ρ = ([some (.d (D.int n0)), some (.d (D.int k0)), some (.d (D.int s2)), o2_3] : Mp.Env)) (it_rng1 (ev_slot rfl)) ⟨_, rfl⟩
 (fun x3 s2 ρ h => by
 obtain ⟨o2_3, rfl⟩ := h; exact ⟨_, rfl, sk_env (ρ' := ([some (.d (D.int n0)), some (.d (D.int k0)), some (.d (D.int s2)), some (.d (D.int x3))] : Mp.Env)) rfl
 (sk_set (ev_div (ev_mul (ev_slot rfl) (ev_sub (ev_slot rfl) (ev_slot rfl))) (ev_add (ev_slot rfl) ev_int)) fun total4 => sk_env (ρ' := ([some (.d (D.int n0)), some (.d (D.int k0)), some (.d (D.int total4)), some (.d (D.int x3))] : Mp.Env)) rfl
 (sk_endS ⟨_, rfl⟩))⟩)
 (fun s2 ρ h => by
 obtain ⟨o2_3, rfl⟩ := h; exact (sk_retF (ev_slot rfl)))))))
/-- slots of krawtchouk: p n j i total s share _ -/
def b_krawtchouk (i_binomial : Nat) : Ss := (.cons (.set 4 (.kint 0))
 (.cons (.for_ [5] (.rng1 (.bin .add (.slot 2) (.kint 1)))
 (.cons (.set 6 (.bin .mul (.call i_binomial (.cons (.slot 3) (.cons (.slot 5) .nil))) (.call i_binomial (.cons (.bin .sub (.slot 1) (.slot 3)) (.cons (.bin .sub (.slot 2) (.slot 5)) .nil)))))
 (.cons (.for_ [7] (.rng1 (.bin .sub (.slot 2) (.slot 5)))
 (.cons (.set 6 (.bin .mul (.slot 6) (.bin .sub (.slot 0) (.kint 1))))
 .nil))
 (.cons (.if_ (.cmp .eq (.bin .mod (.slot 5) (.kint 2)) (.kint 1))
 (.cons (.set 6 (.neg (.slot 6)))
 .nil)
 .nil)
 (.cons (.aug 4 .add (.slot 6))
 .nil)))))
 (.cons (.ret (.slot 4))
 .nil)))
@[irreducible] def g_krawtchouk (p0 : Int) (n0 : Int) (j0 : Int) (i0 : Int) : M Int :=
 (M.bind (M.ok 0) fun total1 =>
 (M.bind (tB1 oRng1 (tB2 oAdd (M.ok j0) (M.ok 1))) fun l => M.bind (tForS (fun x3 (s2 : Int) =>
 (M.bind (tB2 oMul (tB2 g_binomial (M.ok i0) (M.ok x3)) (tB2 g_binomial (tB2 oSub (M.ok n0) (M.ok i0)) (tB2 oSub (M.ok j0) (M.ok x3)))) fun share4 =>
 (M.bind (tB1 oRng1 (tB2 oSub (M.ok j0) (M.ok x3))) fun l => M.bind (tForS (fun x6 (s5 : Int) =>
 (M.bind (tB2 oMul (M.ok s5) (tB2 oSub (M.ok p0) (M.ok 1))) fun share7 =>
 (M.ok share7))) l share4) fun s5 =>
 (tIf (tB2 oEq (tB2 oMod (M.ok x3) (M.ok 2)) (M.ok 1))
 ((M.bind (tB1 oNeg (M.ok s5)) fun share8 =>
 (M.bind (M.ok share8) fun y9 =>
 (M.ok (s2 + y9)))))
 ((M.bind (M.ok s5) fun y10 =>
 (M.ok (s2 + y10)))))))) l total1) fun s2 =>
 (M.ok s2)))
theorem s_krawtchouk {G : Cfg} {i_binomial : Nat} {C : Nat → List D → M D} (hC : G.call = C) (h_binomial : ∀ (a0 : Int), ∀ (a1 : Int), Sim D.int (C i_binomial [D.int a0, D.int a1]) (g_binomial a0 a1)) (p0 : Int) (n0 : Int) (j0 : Int) (i0 : Int) : SK (RF D.int) G (b_krawtchouk i_binomial) [] ([some (.d (D.int p0)), some (.d (D.int n0)), some (.d (D.int j0)), some (.d (D.int i0)), none, none, none, none] : Mp.Env) (g_krawtchouk p0 n0 j0 i0) := by
 subst hC; unfold b_krawtchouk g_krawtchouk
 exact (sk_set ev_int fun total1 => sk_env (ρ' := ([some (.d (D.int p0)), some (.d (D.int n0)), some (.d (D.int j0)), some (.d (D.int i0)), some (.d (D.int total1)), none, none, none] : Mp.Env)) rfl
 (sk_forS (fun (s2 : Int) ρ => ∃ o2_5 o2_6 o2_7 : Option SV, ρ = ([some (.d (D.int p0)), some (.d (D.int n0)), some (.d (D.int j0)), some (.d (D.int i0)), some (.d (D.int s2)), o2_5, o2_6, o2_7] : Mp.Env)) (it_rng1 (ev_add (ev_slot rfl) ev_int)) ⟨_, _, _, rfl⟩
 (fun x3 s2 ρ h => by
 obtain ⟨o2_5, o2_6, o2_7, rfl⟩ := h; exact ⟨_, rfl, sk_env (ρ' := ([some (.d (D.int p0)), some (.d (D.int n0)), some (.d (D.int j0)), some (.d (D.int i0)), some (.d (D.int s2)), some (.d (D.int x3)), o2_6, o2_7] : Mp.Env)) rfl
 (sk_set (ev_mul (ev_call2 h_binomial (ev_slot rfl) (ev_slot rfl)) (ev_call2 h_binomial (ev_sub (ev_slot rfl) (ev_slot rfl)) (ev_sub (ev_slot rfl) (ev_slot rfl)))) fun share4 => sk_env (ρ' := ([some (.d (D.int p0)), some (.d (D.int n0)), some (.d (D.int j0)), some (.d (D.int i0)), some (.d (D.int s2)), some (.d (D.int x3)), some (.d (D.int share4)), o2_7] : Mp.Env)) rfl
 (sk_forS (fun (s5 : Int) ρ => ∃ o5_7 : Option SV, ρ = ([some (.d (D.int p0)), some (.d (D.int n0)), some (.d (D.int j0)), some (.d (D.int i0)), some (.d (D.int s2)), some (.d (D.int x3)), some (.d (D.int s5)), o5_7] : Mp.Env)) (it_rng1 (ev_sub (ev_slot rfl) (ev_slot rfl))) ⟨_, rfl⟩
 (fun x6 s5 ρ h => by
 obtain ⟨o5_7, rfl⟩ := h; exact ⟨_, rfl, sk_env (ρ' := ([some (.d (D.int p0)), some (.d (D.int n0)), some (.d (D.int j0)), some (.d (D.int i0)), some (.d (D.int s2)), some (.d (D.int x3)), some (.d (D.int s5)), some (.d (D.int x6))] : Mp.Env)) rfl
 (sk_set (ev_mul (ev_slot rfl) (ev_sub (ev_slot rfl) ev_int)) fun share7 => sk_env (ρ' := ([some (.d (D.int p0)), some (.d (D.int n0)), some (.d (D.int j0)), some (.d (D.int i0)), some (.d (D.int s2)), some (.d (D.int x3)), some (.d (D.int share7)), some (.d (D.int x6))] : Mp.Env)) rfl
 (sk_endS ⟨_, rfl⟩))⟩)
 (fun s5 ρ h => by
 obtain ⟨o5_7, rfl⟩ := h; exact (sk_if (ev_cmp (e1 := D.int) (e2 := D.int) (c_eq (n := 0) eq_int (by decide)) (ev_mod (ev_slot rfl) ev_int) ev_int)
 (sk_set (ev_neg (ev_slot rfl)) fun share8 => sk_env (ρ' := ([some (.d (D.int p0)), some (.d (D.int n0)), some (.d (D.int j0)), some (.d (D.int i0)), some (.d (D.int s2)), some (.d (D.int x3)), some (.d (D.int share8)), o5_7] : Mp.Env)) rfl
 (sk_pop (sk_augAdd rfl (ev_slot rfl) fun y9 => sk_env (ρ' := ([some (.d (D.int p0)), some (.d (D.int n0)), some (.d (D.int j0)), some (.d (D.int i0)), some (.d (D.int (s2 + y9))), some (.d (D.int x3)), some (.d (D.int share8)), o5_7] : Mp.Env)) rfl
 (sk_endS ⟨_, _, _, rfl⟩))))
 (sk_pop (sk_augAdd rfl (ev_slot rfl) fun y10 => sk_env (ρ' := ([some (.d (D.int p0)), some (.d (D.int n0)), some (.d (D.int j0)), some (.d (D.int i0)), some (.d (D.int (s2 + y10))), some (.d (D.int x3)), some (.d (D.int s5)), o5_7] : Mp.Env)) rfl
 (sk_endS ⟨_, _, _, rfl⟩)))))))⟩)
 (fun s2 ρ h => by
 obtain ⟨o2_5, o2_6, o2_7, rfl⟩ := h; exact (sk_retF (ev_slot rfl)))))
/-- slots of is_numbers: n numbers a -/
def b_is_numbers (i_is_integer : Nat) : Ss := (.cons (.if_ (.or (.not (.isi (.slot 1) [.tuple])) (.cmp .ne (.bi .len (.cons (.slot 1) .nil)) (.bin .add (.slot 0) (.kint 1))))
 (.cons (.ret (.kbl false))
 .nil)
 .nil)
 (.cons (.ret (.and (.bi .all (.cons (.comp (.and (.call i_is_integer (.cons (.slot 2) .nil)) (.cmp .ge (.slot 2) (.kint 0))) [2] (.seq (.slot 1)) .nil) .nil)) (.cmp .gt (.bi .sum (.cons (.slot 1) .nil)) (.kint 0))))
 .nil))
@[irreducible] def g_is_numbers (n0 : Int) (numbers0 : D) : M Bool :=
 (tIf (tOr (tB1 oNot (tB1 (oIsi [.tuple]) (M.ok numbers0))) (tB2 oNe (tB1 oLen (tB1 (oCast decTD) (M.ok numbers0))) (tB2 oAdd (M.ok n0) (M.ok 1))))
 ((M.ok false))
 ((tAnd (tB1 oAll (tComp (tB1 (oCast decTD) (M.ok numbers0)) fun x1 => (tAnd (tB1 g_is_integer (M.ok x1)) (tB2 oGe (tB1 (oCast decI) (M.ok x1)) (M.ok 0))))) (tB2 oGt (tB1 oSum (tB1 (oCast decTI) (M.ok numbers0))) (M.ok 0)))))
theorem s_is_numbers {G : Cfg} {i_is_integer : Nat} {C : Nat → List D → M D} (hC : G.call = C) (h_is_integer : ∀ (a0 : D), Sim D.bl (C i_is_integer [id a0]) (g_is_integer a0)) (n0 : Int) (numbers0 : D) : SK (RF D.bl) G (b_is_numbers i_is_integer) [] ([some (.d (D.int n0)), some (.d (id numbers0)), none] : Mp.Env) (g_is_numbers n0 numbers0) := by
 subst hC; unfold b_is_numbers g_is_numbers
 exact (sk_if (ev_or (ev_not (ev_isiD (ev_slot rfl))) (ev_cmp (e1 := D.int) (e2 := D.int) (c_ne (n := 0) eq_int (by decide)) (ev_bi1 f_lenT (ev_cast decTD_ok (ev_slot rfl))) (ev_add (ev_slot rfl) ev_int)))
 (sk_retF ev_bl)
 (sk_pop (sk_retF (ev_and (ev_bi1 f_all (ev_comp (it_T (ev_cast decTD_ok (ev_slot rfl))) fun x1 => ⟨_, rfl, (ev_and (ev_call1 h_is_integer (ev_slot rfl)) (ev_cmp (e1 := D.int) (e2 := D.int) c_ge (ev_cast decI_ok (ev_slot rfl)) ev_int))⟩)) (ev_cmp (e1 := D.int) (e2 := D.int) c_gt (ev_bi1 f_sumT (ev_cast decTI_ok (ev_slot rfl))) ev_int)))))
/-- slots of macwilliams: p n numbers whole found j total i -/
def b_macwilliams (i_is_numbers i_krawtchouk : Nat) : Ss := (.cons (.if_ (.not (.call i_is_numbers (.cons (.slot 1) (.cons (.slot 2) .nil))))
 (.cons (.raise 1 (.kstr "numbers"))
 .nil)
 .nil)
 (.cons (.set 3 (.bi .sum (.cons (.slot 2) .nil)))
 (.cons (.own 4 (.lst .nil))
 (.cons (.for_ [5] (.rng1 (.bin .add (.slot 1) (.kint 1)))
 (.cons (.set 6 (.bi .sum (.cons (.comp (.bin .mul (.ix (.slot 2) (.slot 7)) (.call i_krawtchouk (.cons (.slot 0) (.cons (.slot 1) (.cons (.slot 5) (.cons (.slot 7) .nil)))))) [7] (.rng1 (.bin .add (.slot 1) (.kint 1))) .nil) .nil)))
 (.cons (.if_ (.cmp .ne (.bin .mod (.slot 6) (.slot 3)) (.kint 0))
 (.cons (.raise 2 (.kstr "fraction"))
 .nil)
 .nil)
 (.cons (.app 4 (.bin .fdiv (.slot 6) (.slot 3)))
 .nil))))
 (.cons (.ret (.bi .tuple (.cons (.slot 4) .nil)))
 .nil)))))
@[irreducible] def g_macwilliams (p0 : Int) (n0 : Int) (numbers0 : D) : M (List Int) :=
 (tIf (tB1 oNot (tB2 g_is_numbers (M.ok n0) (M.ok numbers0)))
 ((M.bind (M.ok ("numbers" : Str)) fun x => M.exc 1 (D.str x)))
 ((M.bind (tB1 oSum (tB1 (oCast decTI) (M.ok numbers0))) fun whole1 =>
 (M.bind (tDisp []) fun found2 =>
 (M.bind (tB1 oRng1 (tB2 oAdd (M.ok n0) (M.ok 1))) fun l => M.bind (tForS (fun x4 (s3 : (List Int)) =>
 (M.bind (tB1 oSum (tComp (tB1 oRng1 (tB2 oAdd (M.ok n0) (M.ok 1))) fun x6 => (tB2 oMul (tB2 oIx (tB1 (oCast decTI) (M.ok numbers0)) (M.ok x6)) (tB4 g_krawtchouk (M.ok p0) (M.ok n0) (M.ok x4) (M.ok x6))))) fun total5 =>
 (tIf (tB2 oNe (tB2 oMod (M.ok total5) (M.ok whole1)) (M.ok 0))
 ((M.bind (M.ok ("fraction" : Str)) fun x => M.exc 2 (D.str x)))
 ((M.bind (M.bind (tB2 oDiv (M.ok total5) (M.ok whole1)) (oApp s3)) fun found7 =>
 (M.ok found7)))))) l found2) fun s3 =>
 (tB1 M.ok (M.ok s3)))))))
theorem s_macwilliams {G : Cfg} {i_is_numbers i_krawtchouk : Nat} {C : Nat → List D → M D} (hC : G.call = C) (h_is_numbers : ∀ (a0 : Int), ∀ (a1 : D), Sim D.bl (C i_is_numbers [D.int a0, id a1]) (g_is_numbers a0 a1)) (h_krawtchouk : ∀ (a0 : Int), ∀ (a1 : Int), ∀ (a2 : Int), ∀ (a3 : Int), Sim D.int (C i_krawtchouk [D.int a0, D.int a1, D.int a2, D.int a3]) (g_krawtchouk a0 a1 a2 a3)) (p0 : Int) (n0 : Int) (numbers0 : D) : SK (RF (eT D.int)) G (b_macwilliams i_is_numbers i_krawtchouk) [] ([some (.d (D.int p0)), some (.d (D.int n0)), some (.d (id numbers0)), none, none, none, none, none] : Mp.Env) (g_macwilliams p0 n0 numbers0) := by
 subst hC; unfold b_macwilliams g_macwilliams
 exact (sk_if (ev_not (ev_call2 h_is_numbers (ev_slot rfl) (ev_slot rfl)))
 (sk_raise ev_str)
 (sk_pop (sk_set (ev_bi1 f_sumT (ev_cast decTI_ok (ev_slot rfl))) fun whole1 => sk_env (ρ' := ([some (.d (D.int p0)), some (.d (D.int n0)), some (.d (id numbers0)), some (.d (D.int whole1)), none, none, none, none] : Mp.Env)) rfl
 (sk_own (ev_lst evs_nil) fun found2 => sk_env (ρ' := ([some (.d (D.int p0)), some (.d (D.int n0)), some (.d (id numbers0)), some (.d (D.int whole1)), some (.ol (List.map D.int found2)), none, none, none] : Mp.Env)) rfl
 (sk_forS (fun (s3 : (List Int)) ρ => ∃ o3_5 o3_6 : Option SV, ρ = ([some (.d (D.int p0)), some (.d (D.int n0)), some (.d (id numbers0)), some (.d (D.int whole1)), some (.ol (List.map D.int s3)), o3_5, o3_6, none] : Mp.Env)) (it_rng1 (ev_add (ev_slot rfl) ev_int)) ⟨_, _, rfl⟩
 (fun x4 s3 ρ h => by
 obtain ⟨o3_5, o3_6, rfl⟩ := h; exact ⟨_, rfl, sk_env (ρ' := ([some (.d (D.int p0)), some (.d (D.int n0)), some (.d (id numbers0)), some (.d (D.int whole1)), some (.ol (List.map D.int s3)), some (.d (D.int x4)), o3_6, none] : Mp.Env)) rfl
 (sk_set (ev_bi1 f_sum (ev_comp (it_rng1 (ev_add (ev_slot rfl) ev_int)) fun x6 => ⟨_, rfl, (ev_mul (ev_ixT (ev_cast decTI_ok (ev_slot rfl)) (ev_slot rfl)) (ev_call4 h_krawtchouk (ev_slot rfl) (ev_slot rfl) (ev_slot rfl) (ev_slot rfl)))⟩)) fun total5 => sk_env (ρ' := ([some (.d (D.int p0)), some (.d (D.int n0)), some (.d (id numbers0)), some (.d (D.int whole1)), some (.ol (List.map D.int s3)), some (.d (D.int x4)), some (.d (D.int total5)), none] : Mp.Env)) rfl
 (sk_if (ev_cmp (e1 := D.int) (e2 := D.int) (c_ne (n := 0) eq_int (by decide)) (ev_mod (ev_slot rfl) (ev_slot rfl)) ev_int)
 (sk_raise ev_str)
 (sk_pop (sk_app rfl (ev_div (ev_slot rfl) (ev_slot rfl)) fun found7 => sk_env (ρ' := ([some (.d (D.int p0)), some (.d (D.int n0)), some (.d (id numbers0)), some (.d (D.int whole1)), some (.ol (List.map D.int found7)), some (.d (D.int x4)), some (.d (D.int total5)), none] : Mp.Env)) rfl
 (sk_endS ⟨_, _, rfl⟩)))))⟩)
 (fun s3 ρ h => by
 obtain ⟨o3_5, o3_6, rfl⟩ := h; exact (sk_retF (ev_bi1 f_tupL (ev_slotO rfl)))))))))
/-- slots of binomial_moment: numbers s n i -/
def b_binomial_moment (i_binomial : Nat) : Ss := (.cons (.set 2 (.bin .sub (.bi .len (.cons (.slot 0) .nil)) (.kint 1)))
 (.cons (.ret (.bi .sum (.cons (.comp (.bin .mul (.call i_binomial (.cons (.bin .sub (.slot 2) (.slot 3)) (.cons (.slot 1) .nil))) (.ix (.slot 0) (.slot 3))) [3] (.rng1 (.bin .add (.slot 2) (.kint 1))) .nil) .nil)))
 .nil))
@[irreducible] def g_binomial_moment (numbers0 : (List Int)) (s0 : Int) : M Int :=
 (M.bind (tB2 oSub (tB1 oLen (M.ok numbers0)) (M.ok 1)) fun n1 =>
 (tB1 oSum (tComp (tB1 oRng1 (tB2 oAdd (M.ok n1) (M.ok 1))) fun x2 => (tB2 oMul (tB2 g_binomial (tB2 oSub (M.ok n1) (M.ok x2)) (M.ok s0)) (tB2 oIx (M.ok numbers0) (M.ok x2))))))
theorem s_binomial_moment {G : Cfg} {i_binomial : Nat} {C : Nat → List D → M D} (hC : G.call = C) (h_binomial : ∀ (a0 : Int), ∀ (a1 : Int), Sim D.int (C i_binomial [D.int a0, D.int a1]) (g_binomial a0 a1)) (numbers0 : (List Int)) (s0 : Int) : SK (RF D.int) G (b_binomial_moment i_binomial) [] ([some (.d ((eT D.int) numbers0)), some (.d (D.int s0)), none, none] : Mp.Env) (g_binomial_moment numbers0 s0) := by
 subst hC; unfold b_binomial_moment g_binomial_moment
 exact (sk_set (ev_sub (ev_bi1 f_lenT (ev_slot rfl)) ev_int) fun n1 => sk_env (ρ' := ([some (.d ((eT D.int) numbers0)), some (.d (D.int s0)), some (.d (D.int n1)), none] : Mp.Env)) rfl
 (sk_retF (ev_bi1 f_sum (ev_comp (it_rng1 (ev_add (ev_slot rfl) ev_int)) fun x2 => ⟨_, rfl, (ev_mul (ev_call2 h_binomial (ev_sub (ev_slot rfl) (ev_slot rfl)) (ev_slot rfl)) (ev_ixT (ev_slot rfl) (ev_slot rfl)))⟩))))
/-- slots of _law_numbers: _law_script _law_found _law_k _law_cell _law_turn _law_i _law_mixed -/
def b__law_numbers : Ss := (.cons (.own 1 (.lst .nil))
 (.cons (.for_ [2] (.rng1 (.bi .min (.cons (.bi .len (.cons (.slot 0) .nil)) (.cons (.kint 63) .nil))))
 (.cons (.set 3 (.bi .abs (.cons (.ix (.slot 0) (.slot 2)) .nil)))
 (.cons (.if_ (.cmp .ge (.slot 3) (.bin .pow (.kint 10) (.kint 18)))
 (.cons (.for_ [4] (.rng1 (.kint 60))
 (.cons (.if_ (.cmp .gt (.slot 3) (.kint 0))
 (.cons (.app 1 (.bin .mod (.slot 3) (.kint 1009)))
 (.cons (.set 3 (.bin .fdiv (.slot 3) (.kint 1009)))
 .nil))
 .nil)
 .nil))
 .nil)
 (.cons (.for_ [5] (.rng1 (.kint 5))
 (.cons (.set 3 (.bin .mod (.bin .add (.bin .add (.bin .mul (.slot 3) (.kint 48271)) (.bin .mul (.kint 69621) (.bin .add (.slot 5) (.slot 2)))) (.kint 11)) (.kint 2147483647)))
 (.cons (.set 6 (.bin .mod (.bin .add (.bin .mul (.slot 3) (.kint 16807)) (.bin .fdiv (.slot 3) (.kint 65536))) (.kint 2147483629)))
 (.cons (.app 1 (.bin .mod (.slot 6) (.kint 1009)))
 .nil))))
 .nil))
 .nil)))
 (.cons (.frz 1)
 (.cons (.ret (.slot 1))
 .nil))))
@[irreducible] def g__law_numbers (script0 : (List Int)) : M (List Int) :=
 (M.bind (tDisp []) fun found1 =>
 (M.bind (tB1 oRng1 (tB2 oMin2 (tB1 oLen (M.ok script0)) (M.ok 63))) fun l => M.bind (tForS (fun x3 (s2 : (List Int)) =>
 (M.bind (tB1 oAbs (tB2 oIx (M.ok script0) (M.ok x3))) fun cell4 =>
 (tIf (tB2 oGe (M.ok cell4) (tB2 oPow (M.ok 10) (M.ok 18)))
 ((M.bind (tB1 oRng1 (M.ok 60)) fun l => M.bind (tForS (fun x6 (s5 : (List Int) × Int) =>
 (tIf (tB2 oGt (M.ok s5.2) (M.ok 0))
 ((M.bind (M.bind (tB2 oMod (M.ok s5.2) (M.ok 1009)) (oApp s5.1)) fun found7 =>
 (M.bind (tB2 oDiv (M.ok s5.2) (M.ok 1009)) fun cell8 =>
 (M.ok (found7, cell8)))))
 ((M.ok (s5.1, s5.2))))) l (s2, cell4)) fun s5 =>
 (M.ok s5.1)))
 ((M.bind (tB1 oRng1 (M.ok 5)) fun l => M.bind (tForS (fun x10 (s9 : (List Int) × Int) =>
 (M.bind (tB2 oMod (tB2 oAdd (tB2 oAdd (tB2 oMul (M.ok s9.2) (M.ok 48271)) (tB2 oMul (M.ok 69621) (tB2 oAdd (M.ok x10) (M.ok x3)))) (M.ok 11)) (M.ok 2147483647)) fun cell11 =>
 (M.bind (tB2 oMod (tB2 oAdd (tB2 oMul (M.ok cell11) (M.ok 16807)) (tB2 oDiv (M.ok cell11) (M.ok 65536))) (M.ok 2147483629)) fun mixed12 =>
 (M.bind (M.bind (tB2 oMod (M.ok mixed12) (M.ok 1009)) (oApp s9.1)) fun found13 =>
 (M.ok (found13, cell11)))))) l (s2, cell4)) fun s9 =>
 (M.ok s9.1)))))) l found1) fun s2 =>
 (M.ok s2)))
theorem s__law_numbers {G : Cfg} (script0 : (List Int)) : SK (RF (eL D.int)) G (b__law_numbers) [] ([some (.d ((eC D.int) script0)), none, none, none, none, none, none] : Mp.Env) (g__law_numbers script0) := by
 unfold b__law_numbers g__law_numbers
 exact (sk_own (ev_lst evs_nil) fun found1 => sk_env (ρ' := ([some (.d ((eC D.int) script0)), some (.ol (List.map D.int found1)), none, none, none, none, none] : Mp.Env)) rfl
 (sk_forS (fun (s2 : (List Int)) ρ => ∃ o2_2 o2_3 o2_4 o2_5 o2_6 : Option SV, ρ = ([some (.d ((eC D.int) script0)), some (.ol (List.map D.int s2)), o2_2, o2_3, o2_4, o2_5, o2_6] : Mp.Env)) (it_rng1 (ev_bi2 f_min2 (ev_bi1 f_lenC (ev_slot rfl)) ev_int)) ⟨_, _, _, _, _, rfl⟩
 (fun x3 s2 ρ h => by
 obtain ⟨o2_2, o2_3, o2_4, o2_5, o2_6, rfl⟩ := h; exact ⟨_, rfl, sk_env (ρ' := ([some (.d ((eC D.int) script0)), some (.ol (List.map D.int s2)), some (.d (D.int x3)), o2_3, o2_4, o2_5, o2_6] : Mp.Env)) rfl
 (sk_set (ev_bi1 f_abs (ev_ixC (ev_slot rfl) (ev_slot rfl))) fun cell4 => sk_env (ρ' := ([some (.d ((eC D.int) script0)), some (.ol (List.map D.int s2)), some (.d (D.int x3)), some (.d (D.int cell4)), o2_4, o2_5, o2_6] : Mp.Env)) rfl
 (sk_if (ev_cmp (e1 := D.int) (e2 := D.int) c_ge (ev_slot rfl) (ev_pow ev_int ev_int))
 (sk_forS (fun (s5 : (List Int) × Int) ρ => ∃ o5_4 : Option SV, ρ = ([some (.d ((eC D.int) script0)), some (.ol (List.map D.int s5.1)), some (.d (D.int x3)), some (.d (D.int s5.2)), o5_4, o2_5, o2_6] : Mp.Env)) (it_rng1 ev_int) ⟨_, rfl⟩
 (fun x6 s5 ρ h => by
 obtain ⟨o5_4, rfl⟩ := h; exact ⟨_, rfl, sk_env (ρ' := ([some (.d ((eC D.int) script0)), some (.ol (List.map D.int s5.1)), some (.d (D.int x3)), some (.d (D.int s5.2)), some (.d (D.int x6)), o2_5, o2_6] : Mp.Env)) rfl
 (sk_if (ev_cmp (e1 := D.int) (e2 := D.int) c_gt (ev_slot rfl) ev_int)
 (sk_app rfl (ev_mod (ev_slot rfl) ev_int) fun found7 => sk_env (ρ' := ([some (.d ((eC D.int) script0)), some (.ol (List.map D.int found7)), some (.d (D.int x3)), some (.d (D.int s5.2)), some (.d (D.int x6)), o2_5, o2_6] : Mp.Env)) rfl
 (sk_set (ev_div (ev_slot rfl) ev_int) fun cell8 => sk_env (ρ' := ([some (.d ((eC D.int) script0)), some (.ol (List.map D.int found7)), some (.d (D.int x3)), some (.d (D.int cell8)), some (.d (D.int x6)), o2_5, o2_6] : Mp.Env)) rfl
 (sk_pop (sk_endS ⟨_, rfl⟩))))
 (sk_pop (sk_endS ⟨_, rfl⟩)))⟩)
 (fun s5 ρ h => by
 obtain ⟨o5_4, rfl⟩ := h; exact (sk_pop (sk_endS ⟨_, _, _, _, _, rfl⟩))))
 (sk_forS (fun (s9 : (List Int) × Int) ρ => ∃ o9_5 o9_6 : Option SV, ρ = ([some (.d ((eC D.int) script0)), some (.ol (List.map D.int s9.1)), some (.d (D.int x3)), some (.d (D.int s9.2)), o2_4, o9_5, o9_6] : Mp.Env)) (it_rng1 ev_int) ⟨_, _, rfl⟩
 (fun x10 s9 ρ h => by
 obtain ⟨o9_5, o9_6, rfl⟩ := h; exact ⟨_, rfl, sk_env (ρ' := ([some (.d ((eC D.int) script0)), some (.ol (List.map D.int s9.1)), some (.d (D.int x3)), some (.d (D.int s9.2)), o2_4, some (.d (D.int x10)), o9_6] : Mp.Env)) rfl
 (sk_set (ev_mod (ev_add (ev_add (ev_mul (ev_slot rfl) ev_int) (ev_mul ev_int (ev_add (ev_slot rfl) (ev_slot rfl)))) ev_int) ev_int) fun cell11 => sk_env (ρ' := ([some (.d ((eC D.int) script0)), some (.ol (List.map D.int s9.1)), some (.d (D.int x3)), some (.d (D.int cell11)), o2_4, some (.d (D.int x10)), o9_6] : Mp.Env)) rfl
 (sk_set (ev_mod (ev_add (ev_mul (ev_slot rfl) ev_int) (ev_div (ev_slot rfl) ev_int)) ev_int) fun mixed12 => sk_env (ρ' := ([some (.d ((eC D.int) script0)), some (.ol (List.map D.int s9.1)), some (.d (D.int x3)), some (.d (D.int cell11)), o2_4, some (.d (D.int x10)), some (.d (D.int mixed12))] : Mp.Env)) rfl
 (sk_app rfl (ev_mod (ev_slot rfl) ev_int) fun found13 => sk_env (ρ' := ([some (.d ((eC D.int) script0)), some (.ol (List.map D.int found13)), some (.d (D.int x3)), some (.d (D.int cell11)), o2_4, some (.d (D.int x10)), some (.d (D.int mixed12))] : Mp.Env)) rfl
 (sk_endS ⟨_, _, rfl⟩))))⟩)
 (fun s9 ρ h => by
 obtain ⟨o9_5, o9_6, rfl⟩ := h; exact (sk_pop (sk_endS ⟨_, _, _, _, _, rfl⟩))))))⟩)
 (fun s2 ρ h => by
 obtain ⟨o2_2, o2_3, o2_4, o2_5, o2_6, rfl⟩ := h; exact (sk_frz rfl (sk_env (ρ' := ([some (.d ((eC D.int) script0)), some (.d ((eL D.int) s2)), o2_2, o2_3, o2_4, o2_5, o2_6] : Mp.Env)) rfl
 (sk_retF (ev_slot rfl)))))))
/-- slots of _law_next: _law_numbers_here _law_many -/
def b__law_next : Ss := (.cons (.if_ (.cmp .eq (.bi .len (.cons (.slot 0) .nil)) (.kint 0))
 (.cons (.ret (.kint 0))
 .nil)
 .nil)
 (.cons (.ret (.bin .mod (.rpop (.slot 0) (.kint 0)) (.slot 1)))
 .nil))
@[irreducible] def g__law_next (u_ : Unit) (many0 : Int) : M Int :=
 (tIf (tB2 oEq rLen (M.ok 0))
 ((M.ok 0))
 ((tB2 oMod (M.bind rHas fun _ => M.bind (M.ok 0) rPop) (M.ok many0))))
theorem s__law_next {G : Cfg} (u_ : Unit) (many0 : Int) : SK (RF D.int) G (b__law_next) [] ([some (.d .st), some (.d (D.int many0))] : Mp.Env) (g__law_next u_ many0) := by
 unfold b__law_next g__law_next
 exact (sk_if (ev_cmp (e1 := D.int) (e2 := D.int) (c_eq (n := 0) eq_int (by decide)) (f_lenR rfl) ev_int)
 (sk_retF ev_int)
 (sk_pop (sk_retF (ev_mod (ev_rpop rfl ev_int) (ev_slot rfl)))))
/-- slots of _law_rows: _law_numbers_here _law_p _law_n _law_most _law_rows_here _law_turn _law_k -/
def b__law_rows (i__law_next : Nat) : Ss := (.cons (.own 4 (.lst .nil))
 (.cons (.for_ [5] (.rng1 (.call i__law_next (.cons (.slot 0) (.cons (.bin .add (.slot 3) (.kint 1)) .nil))))
 (.cons (.app 4 (.bi .tuple (.cons (.comp (.call i__law_next (.cons (.slot 0) (.cons (.slot 1) .nil))) [6] (.rng1 (.slot 2)) .nil) .nil)))
 .nil))
 (.cons (.frz 4)
 (.cons (.ret (.slot 4))
 .nil))))
@[irreducible] def g__law_rows (u_ : Unit) (p0 : Int) (n0 : Int) (most0 : Int) : M (List (List Int)) :=
 (M.bind (tDisp []) fun rows_here1 =>
 (M.bind (tB1 oRng1 (tB2 g__law_next (M.ok ()) (tB2 oAdd (M.ok most0) (M.ok 1)))) fun l => M.bind (tForS (fun x3 (s2 : (List (List Int))) =>
 (M.bind (M.bind (tB1 M.ok (tComp (tB1 oRng1 (M.ok n0)) fun x5 => (tB2 g__law_next (M.ok ()) (M.ok p0)))) (oApp s2)) fun rows_here4 =>
 (M.ok rows_here4))) l rows_here1) fun s2 =>
 (M.ok s2)))
theorem s__law_rows {G : Cfg} {i__law_next : Nat} {C : Nat → List D → M D} (hC : G.call = C) (h__law_next : ∀ (a0 : Unit), ∀ (a1 : Int), Sim D.int (C i__law_next [eR a0, D.int a1]) (g__law_next a0 a1)) (u_ : Unit) (p0 : Int) (n0 : Int) (most0 : Int) : SK (RF (eL (eT D.int))) G (b__law_rows i__law_next) [] ([some (.d .st), some (.d (D.int p0)), some (.d (D.int n0)), some (.d (D.int most0)), none, none, none] : Mp.Env) (g__law_rows u_ p0 n0 most0) := by
 subst hC; unfold b__law_rows g__law_rows
 exact (sk_own (ev_lst evs_nil) fun rows_here1 => sk_env (ρ' := ([some (.d .st), some (.d (D.int p0)), some (.d (D.int n0)), some (.d (D.int most0)), some (.ol (List.map (eT D.int) rows_here1)), none, none] : Mp.Env)) rfl
 (sk_forS (fun (s2 : (List (List Int))) ρ => ∃ o2_5 : Option SV, ρ = ([some (.d .st), some (.d (D.int p0)), some (.d (D.int n0)), some (.d (D.int most0)), some (.ol (List.map (eT D.int) s2)), o2_5, none] : Mp.Env)) (it_rng1 (ev_call2 h__law_next (ev_slot rfl) (ev_add (ev_slot rfl) ev_int))) ⟨_, rfl⟩
 (fun x3 s2 ρ h => by
 obtain ⟨o2_5, rfl⟩ := h; exact ⟨_, rfl, sk_env (ρ' := ([some (.d .st), some (.d (D.int p0)), some (.d (D.int n0)), some (.d (D.int most0)), some (.ol (List.map (eT D.int) s2)), some (.d (D.int x3)), none] : Mp.Env)) rfl
 (sk_app rfl (ev_bi1 f_tupL (ev_comp (it_rng1 (ev_slot rfl)) fun x5 => ⟨_, rfl, (ev_call2 h__law_next (ev_slot rfl) (ev_slot rfl))⟩)) fun rows_here4 => sk_env (ρ' := ([some (.d .st), some (.d (D.int p0)), some (.d (D.int n0)), some (.d (D.int most0)), some (.ol (List.map (eT D.int) rows_here4)), some (.d (D.int x3)), none] : Mp.Env)) rfl
 (sk_endS ⟨_, rfl⟩))⟩)
 (fun s2 ρ h => by
 obtain ⟨o2_5, rfl⟩ := h; exact (sk_frz rfl (sk_env (ρ' := ([some (.d .st), some (.d (D.int p0)), some (.d (D.int n0)), some (.d (D.int most0)), some (.d ((eL (eT D.int)) s2)), o2_5, none] : Mp.Env)) rfl
 (sk_retF (ev_slot rfl)))))))
/-- slots of _law_words: _law_p _law_n _law_rows_here _law_found _law_row _law_wider _law_word _law_c _law_k -/
def b__law_words : Ss := (.cons (.own 3 (.ddisp (.bi .tuple (.cons (.comp (.kint 0) [8] (.rng1 (.slot 1)) .nil) .nil)) (.kbl true)))
 (.cons (.for_ [4] (.seq (.slot 2))
 (.cons (.own 5 (.dnew true))
 (.cons (.for_ [6] (.seq (.bi .list (.cons (.slot 3) .nil)))
 (.cons (.for_ [7] (.rng1 (.slot 0))
 (.cons (.put 5 (.bi .tuple (.cons (.comp (.bin .mod (.bin .add (.ix (.slot 6) (.slot 8)) (.bin .mul (.slot 7) (.ix (.slot 4) (.slot 8)))) (.slot 0)) [8] (.rng1 (.slot 1)) .nil) .nil)) (.kbl true))
 .nil))
 .nil))
 (.cons (.mov 3 5)
 .nil))))
 (.cons (.ret (.bi .sorted (.cons (.compK (.slot 6) [6] 3 .nil) .nil)))
 .nil)))
@[irreducible] def g__law_words (p0 : Int) (n0 : Int) (rows_here0 : (List (List Int))) : M (List (List Int)) :=
 (M.bind (tB2 (fun x y => M.ok [(x, y)]) (tB1 M.ok (tComp (tB1 oRng1 (M.ok n0)) fun x2 => (M.ok 0))) (M.ok true)) fun found1 =>
 (M.bind (M.ok rows_here0) fun l => M.bind (tForS (fun x4 (s3 : (List ((List Int) × Bool))) =>
 (M.bind (M.ok []) fun wider5 =>
 (M.bind (tB1 oKeys (M.ok s3)) fun l => M.bind (tForS (fun x7 (s6 : (List ((List Int) × Bool))) =>
 (M.bind (tB1 oRng1 (M.ok p0)) fun l => M.bind (tForS (fun x9 (s8 : (List ((List Int) × Bool))) =>
 (M.bind (M.bind (M.ok true) fun v => M.bind (tB1 M.ok (tComp (tB1 oRng1 (M.ok n0)) fun x11 => (tB2 oMod (tB2 oAdd (tB2 oIx (M.ok x7) (M.ok x11)) (tB2 oMul (M.ok x9) (tB2 oIx (M.ok x4) (M.ok x11)))) (M.ok p0)))) fun n => oDPut s8 n v) fun wider10 =>
 (M.ok wider10))) l s6) fun s8 =>
 (M.ok s8))) l wider5) fun s6 =>
 (M.ok s6)))) l found1) fun s3 =>
 (tB1 (oSorted (lexL ltI) List.isEmpty) (tComp (M.ok (List.map (·.1) s3)) fun x12 => (M.ok x12)))))
theorem s__law_words {G : Cfg} (p0 : Int) (n0 : Int) (rows_here0 : (List (List Int))) : SK (RF (eL (eT D.int))) G (b__law_words) [] ([some (.d (D.int p0)), some (.d (D.int n0)), some (.d ((eL (eT D.int)) rows_here0)), none, none, none, none, none, none] : Mp.Env) (g__law_words p0 n0 rows_here0) := by
 unfold b__law_words g__law_words
 exact (sk_ownD (ev_ddisp key_TI (ev_bi1 f_tupL (ev_comp (it_rng1 (ev_slot rfl)) fun x2 => ⟨_, rfl, ev_int⟩)) ev_bl) fun found1 => sk_env (ρ' := ([some (.d (D.int p0)), some (.d (D.int n0)), some (.d ((eL (eT D.int)) rows_here0)), some (.od true (List.map (fun p => (eT D.int) p.1) found1) (List.map (fun p => D.bl p.2) found1)), none, none, none, none, none] : Mp.Env)) rfl
 (sk_forS (fun (s3 : (List ((List Int) × Bool))) ρ => ∃ o3_4 o3_5 o3_6 o3_7 : Option SV, ρ = ([some (.d (D.int p0)), some (.d (D.int n0)), some (.d ((eL (eT D.int)) rows_here0)), some (.od true (List.map (fun p => (eT D.int) p.1) s3) (List.map (fun p => D.bl p.2) s3)), o3_4, o3_5, o3_6, o3_7, none] : Mp.Env)) (it_L (ev_slot rfl)) ⟨_, _, _, _, rfl⟩
 (fun x4 s3 ρ h => by
 obtain ⟨o3_4, o3_5, o3_6, o3_7, rfl⟩ := h; exact ⟨_, rfl, sk_env (ρ' := ([some (.d (D.int p0)), some (.d (D.int n0)), some (.d ((eL (eT D.int)) rows_here0)), some (.od true (List.map (fun p => (eT D.int) p.1) s3) (List.map (fun p => D.bl p.2) s3)), some (.d ((eT D.int) x4)), o3_5, o3_6, o3_7, none] : Mp.Env)) rfl
 (sk_ownD ev_dnew fun wider5 => sk_env (ρ' := ([some (.d (D.int p0)), some (.d (D.int n0)), some (.d ((eL (eT D.int)) rows_here0)), some (.od true (List.map (fun p => (eT D.int) p.1) s3) (List.map (fun p => D.bl p.2) s3)), some (.d ((eT D.int) x4)), some (.od true (List.map (fun p => (eT D.int) p.1) wider5) (List.map (fun p => D.bl p.2) wider5)), o3_6, o3_7, none] : Mp.Env)) rfl
 (sk_forS (fun (s6 : (List ((List Int) × Bool))) ρ => ∃ o6_6 o6_7 : Option SV, ρ = ([some (.d (D.int p0)), some (.d (D.int n0)), some (.d ((eL (eT D.int)) rows_here0)), some (.od true (List.map (fun p => (eT D.int) p.1) s3) (List.map (fun p => D.bl p.2) s3)), some (.d ((eT D.int) x4)), some (.od true (List.map (fun p => (eT D.int) p.1) s6) (List.map (fun p => D.bl p.2) s6)), o6_6, o6_7, none] : Mp.Env)) (it_L (ev_bi1 f_lstD (ev_slotD rfl))) ⟨_, _, rfl⟩
 (fun x7 s6 ρ h => by
 obtain ⟨o6_6, o6_7, rfl⟩ := h; exact ⟨_, rfl, sk_env (ρ' := ([some (.d (D.int p0)), some (.d (D.int n0)), some (.d ((eL (eT D.int)) rows_here0)), some (.od true (List.map (fun p => (eT D.int) p.1) s3) (List.map (fun p => D.bl p.2) s3)), some (.d ((eT D.int) x4)), some (.od true (List.map (fun p => (eT D.int) p.1) s6) (List.map (fun p => D.bl p.2) s6)), some (.d ((eT D.int) x7)), o6_7, none] : Mp.Env)) rfl
 (sk_forS (fun (s8 : (List ((List Int) × Bool))) ρ => ∃ o8_7 : Option SV, ρ = ([some (.d (D.int p0)), some (.d (D.int n0)), some (.d ((eL (eT D.int)) rows_here0)), some (.od true (List.map (fun p => (eT D.int) p.1) s3) (List.map (fun p => D.bl p.2) s3)), some (.d ((eT D.int) x4)), some (.od true (List.map (fun p => (eT D.int) p.1) s8) (List.map (fun p => D.bl p.2) s8)), some (.d ((eT D.int) x7)), o8_7, none] : Mp.Env)) (it_rng1 (ev_slot rfl)) ⟨_, rfl⟩
 (fun x9 s8 ρ h => by
 obtain ⟨o8_7, rfl⟩ := h; exact ⟨_, rfl, sk_env (ρ' := ([some (.d (D.int p0)), some (.d (D.int n0)), some (.d ((eL (eT D.int)) rows_here0)), some (.od true (List.map (fun p => (eT D.int) p.1) s3) (List.map (fun p => D.bl p.2) s3)), some (.d ((eT D.int) x4)), some (.od true (List.map (fun p => (eT D.int) p.1) s8) (List.map (fun p => D.bl p.2) s8)), some (.d ((eT D.int) x7)), some (.d (D.int x9)), none] : Mp.Env)) rfl
 (sk_putD (n := 1) (eq_T eq_int) (by decide) key_TI rfl ev_bl (ev_bi1 f_tupL (ev_comp (it_rng1 (ev_slot rfl)) fun x11 => ⟨_, rfl, (ev_mod (ev_add (ev_ixT (ev_slot rfl) (ev_slot rfl)) (ev_mul (ev_slot rfl) (ev_ixT (ev_slot rfl) (ev_slot rfl)))) (ev_slot rfl))⟩)) fun wider10 => sk_env (ρ' := ([some (.d (D.int p0)), some (.d (D.int n0)), some (.d ((eL (eT D.int)) rows_here0)), some (.od true (List.map (fun p => (eT D.int) p.1) s3) (List.map (fun p => D.bl p.2) s3)), some (.d ((eT D.int) x4)), some (.od true (List.map (fun p => (eT D.int) p.1) wider10) (List.map (fun p => D.bl p.2) wider10)), some (.d ((eT D.int) x7)), some (.d (D.int x9)), none] : Mp.Env)) rfl
 (sk_endS ⟨_, rfl⟩))⟩)
 (fun s8 ρ h => by
 obtain ⟨o8_7, rfl⟩ := h; exact (sk_endS ⟨_, _, rfl⟩)))⟩)
 (fun s6 ρ h => by
 obtain ⟨o6_6, o6_7, rfl⟩ := h; exact (sk_mov rfl rfl (sk_env (ρ' := ([some (.d (D.int p0)), some (.d (D.int n0)), some (.d ((eL (eT D.int)) rows_here0)), some (.od true (List.map (fun p => (eT D.int) p.1) s6) (List.map (fun p => D.bl p.2) s6)), some (.d ((eT D.int) x4)), none, o6_6, o6_7, none] : Mp.Env)) rfl
 (sk_endS ⟨_, _, _, _, rfl⟩))))))⟩)
 (fun s3 ρ h => by
 obtain ⟨o3_4, o3_5, o3_6, o3_7, rfl⟩ := h; exact (sk_retF (ev_bi1 (f_sorted (n := 1) (ord_T ord_int) (by decide)) (ev_compK rfl fun x12 => ⟨_, rfl, (ev_slot rfl)⟩))))))
/-- slots of _law_weight: _law_word _law_x -/
def b__law_weight : Ss := (.cons (.ret (.bi .len (.cons (.comp (.slot 1) [1] (.seq (.slot 0)) (.cons (.cmp .ne (.slot 1) (.kint 0)) .nil)) .nil)))
 .nil)
@[irreducible] def g__law_weight (word0 : (List Int)) : M Int :=
 (tB1 oLen (tCompI (M.ok word0) (fun x1 => (tB2 oNe (M.ok x1) (M.ok 0))) fun x1 => (M.ok x1)))
theorem s__law_weight {G : Cfg} (word0 : (List Int)) : SK (RF D.int) G (b__law_weight) [] ([some (.d ((eT D.int) word0)), none] : Mp.Env) (g__law_weight word0) := by
 unfold b__law_weight g__law_weight
 exact (sk_retF (ev_bi1 f_lenL (ev_compI (it_T (ev_slot rfl)) fun x1 => ⟨_, rfl, (ev_cmp (e1 := D.int) (e2 := D.int) (c_ne (n := 0) eq_int (by decide)) (ev_slot rfl) ev_int), (ev_slot rfl)⟩)))
/-- slots of _law_all: _law_p _law_n _law_found _law_turn _law_longer _law_word _law_x -/
def b__law_all : Ss := (.cons (.set 2 (.lst (.cons (.tup .nil) .nil)))
 (.cons (.for_ [3] (.rng1 (.slot 1))
 (.cons (.own 4 (.lst .nil))
 (.cons (.for_ [5] (.seq (.bi .list (.cons (.slot 2) .nil)))
 (.cons (.for_ [6] (.rng1 (.slot 0))
 (.cons (.app 4 (.bin .add (.slot 5) (.tup (.cons (.slot 6) .nil))))
 .nil))
 .nil))
 (.cons (.frz 4)
 (.cons (.set 2 (.slot 4))
 .nil)))))
 (.cons (.ret (.slot 2))
 .nil)))
@[irreducible] def g__law_all (p0 : Int) (n0 : Int) : M (List (List Int)) :=
 (M.bind (tDisp [(tDisp [])]) fun found1 =>
 (M.bind (tB1 oRng1 (M.ok n0)) fun l => M.bind (tForS (fun x3 (s2 : (List (List Int))) =>
 (M.bind (tDisp []) fun longer4 =>
 (M.bind (tB1 M.ok (M.ok s2)) fun l => M.bind (tForS (fun x6 (s5 : (List (List Int))) =>
 (M.bind (tB1 oRng1 (M.ok p0)) fun l => M.bind (tForS (fun x8 (s7 : (List (List Int))) =>
 (M.bind (M.bind (tB2 oCat (M.ok x6) (tDisp [(M.ok x8)])) (oApp s7)) fun longer9 =>
 (M.ok longer9))) l s5) fun s7 =>
 (M.ok s7))) l longer4) fun s5 =>
 (M.bind (M.ok s5) fun found10 =>
 (M.ok found10))))) l found1) fun s2 =>
 (M.ok s2)))
theorem s__law_all {G : Cfg} (p0 : Int) (n0 : Int) : SK (RF (eL (eT D.int))) G (b__law_all) [] ([some (.d (D.int p0)), some (.d (D.int n0)), none, none, none, none, none] : Mp.Env) (g__law_all p0 n0) := by
 unfold b__law_all g__law_all
 exact (sk_set (ev_lst (evs_cons (ev_tupH evs_nil) evs_nil)) fun found1 => sk_env (ρ' := ([some (.d (D.int p0)), some (.d (D.int n0)), some (.d ((eL (eT D.int)) found1)), none, none, none, none] : Mp.Env)) rfl
 (sk_forS (fun (s2 : (List (List Int))) ρ => ∃ o2_3 o2_4 o2_5 o2_6 : Option SV, ρ = ([some (.d (D.int p0)), some (.d (D.int n0)), some (.d ((eL (eT D.int)) s2)), o2_3, o2_4, o2_5, o2_6] : Mp.Env)) (it_rng1 (ev_slot rfl)) ⟨_, _, _, _, rfl⟩
 (fun x3 s2 ρ h => by
 obtain ⟨o2_3, o2_4, o2_5, o2_6, rfl⟩ := h; exact ⟨_, rfl, sk_env (ρ' := ([some (.d (D.int p0)), some (.d (D.int n0)), some (.d ((eL (eT D.int)) s2)), some (.d (D.int x3)), o2_4, o2_5, o2_6] : Mp.Env)) rfl
 (sk_own (ev_lst evs_nil) fun longer4 => sk_env (ρ' := ([some (.d (D.int p0)), some (.d (D.int n0)), some (.d ((eL (eT D.int)) s2)), some (.d (D.int x3)), some (.ol (List.map (eT D.int) longer4)), o2_5, o2_6] : Mp.Env)) rfl
 (sk_forS (fun (s5 : (List (List Int))) ρ => ∃ o5_5 o5_6 : Option SV, ρ = ([some (.d (D.int p0)), some (.d (D.int n0)), some (.d ((eL (eT D.int)) s2)), some (.d (D.int x3)), some (.ol (List.map (eT D.int) s5)), o5_5, o5_6] : Mp.Env)) (it_L (ev_bi1 f_lstL (ev_slot rfl))) ⟨_, _, rfl⟩
 (fun x6 s5 ρ h => by
 obtain ⟨o5_5, o5_6, rfl⟩ := h; exact ⟨_, rfl, sk_env (ρ' := ([some (.d (D.int p0)), some (.d (D.int n0)), some (.d ((eL (eT D.int)) s2)), some (.d (D.int x3)), some (.ol (List.map (eT D.int) s5)), some (.d ((eT D.int) x6)), o5_6] : Mp.Env)) rfl
 (sk_forS (fun (s7 : (List (List Int))) ρ => ∃ o7_6 : Option SV, ρ = ([some (.d (D.int p0)), some (.d (D.int n0)), some (.d ((eL (eT D.int)) s2)), some (.d (D.int x3)), some (.ol (List.map (eT D.int) s7)), some (.d ((eT D.int) x6)), o7_6] : Mp.Env)) (it_rng1 (ev_slot rfl)) ⟨_, rfl⟩
 (fun x8 s7 ρ h => by
 obtain ⟨o7_6, rfl⟩ := h; exact ⟨_, rfl, sk_env (ρ' := ([some (.d (D.int p0)), some (.d (D.int n0)), some (.d ((eL (eT D.int)) s2)), some (.d (D.int x3)), some (.ol (List.map (eT D.int) s7)), some (.d ((eT D.int) x6)), some (.d (D.int x8))] : Mp.Env)) rfl
 (sk_app rfl (ev_catT (ev_slot rfl) (ev_tupH (evs_cons (ev_slot rfl) evs_nil))) fun longer9 => sk_env (ρ' := ([some (.d (D.int p0)), some (.d (D.int n0)), some (.d ((eL (eT D.int)) s2)), some (.d (D.int x3)), some (.ol (List.map (eT D.int) longer9)), some (.d ((eT D.int) x6)), some (.d (D.int x8))] : Mp.Env)) rfl
 (sk_endS ⟨_, rfl⟩))⟩)
 (fun s7 ρ h => by
 obtain ⟨o7_6, rfl⟩ := h; exact (sk_endS ⟨_, _, rfl⟩)))⟩)
 (fun s5 ρ h => by
 obtain ⟨o5_5, o5_6, rfl⟩ := h; exact (sk_frz rfl (sk_env (ρ' := ([some (.d (D.int p0)), some (.d (D.int n0)), some (.d ((eL (eT D.int)) s2)), some (.d (D.int x3)), some (.d ((eL (eT D.int)) s5)), o5_5, o5_6] : Mp.Env)) rfl
 (sk_set (ev_slot rfl) fun found10 => sk_env (ρ' := ([some (.d (D.int p0)), some (.d (D.int n0)), some (.d ((eL (eT D.int)) found10)), some (.d (D.int x3)), some (.d ((eL (eT D.int)) s5)), o5_5, o5_6] : Mp.Env)) rfl
 (sk_endS ⟨_, _, _, _, rfl⟩)))))))⟩)
 (fun s2 ρ h => by
 obtain ⟨o2_3, o2_4, o2_5, o2_6, rfl⟩ := h; exact (sk_retF (ev_slot rfl)))))
/-- slots of _law_numbers_of: _law_words_here _law_n _law_found _law_word _law_k -/
def b__law_numbers_of (i__law_weight : Nat) : Ss := (.cons (.own 2 (.comp (.kint 0) [4] (.rng1 (.bin .add (.slot 1) (.kint 1))) .nil))
 (.cons (.for_ [3] (.seq (.slot 0))
 (.cons (.put 2 (.call i__law_weight (.cons (.slot 3) .nil)) (.bin .add (.ix (.slot 2) (.call i__law_weight (.cons (.slot 3) .nil))) (.kint 1)))
 .nil))
 (.cons (.ret (.bi .tuple (.cons (.slot 2) .nil)))
 .nil)))
@[irreducible] def g__law_numbers_of (words_here0 : (List (List Int))) (n0 : Int) : M (List Int) :=
 (M.bind (tComp (tB1 oRng1 (tB2 oAdd (M.ok n0) (M.ok 1))) fun x2 => (M.ok 0)) fun found1 =>
 (M.bind (M.ok words_here0) fun l => M.bind (tForS (fun x4 (s3 : (List Int)) =>
 (M.bind (M.bind (tB2 oAdd (tB2 oIx (M.ok s3) (tB1 g__law_weight (M.ok x4))) (M.ok 1)) fun v => M.bind (tB1 g__law_weight (M.ok x4)) fun n => oSet s3 n v) fun found5 =>
 (M.ok found5))) l found1) fun s3 =>
 (tB1 M.ok (M.ok s3))))
theorem s__law_numbers_of {G : Cfg} {i__law_weight : Nat} {C : Nat → List D → M D} (hC : G.call = C) (h__law_weight : ∀ (a0 : (List Int)), Sim D.int (C i__law_weight [(eT D.int) a0]) (g__law_weight a0)) (words_here0 : (List (List Int))) (n0 : Int) : SK (RF (eT D.int)) G (b__law_numbers_of i__law_weight) [] ([some (.d ((eL (eT D.int)) words_here0)), some (.d (D.int n0)), none, none, none] : Mp.Env) (g__law_numbers_of words_here0 n0) := by
 subst hC; unfold b__law_numbers_of g__law_numbers_of
 exact (sk_own (ev_comp (it_rng1 (ev_add (ev_slot rfl) ev_int)) fun x2 => ⟨_, rfl, ev_int⟩) fun found1 => sk_env (ρ' := ([some (.d ((eL (eT D.int)) words_here0)), some (.d (D.int n0)), some (.ol (List.map D.int found1)), none, none] : Mp.Env)) rfl
 (sk_forS (fun (s3 : (List Int)) ρ => ∃ o3_3 : Option SV, ρ = ([some (.d ((eL (eT D.int)) words_here0)), some (.d (D.int n0)), some (.ol (List.map D.int s3)), o3_3, none] : Mp.Env)) (it_L (ev_slot rfl)) ⟨_, rfl⟩
 (fun x4 s3 ρ h => by
 obtain ⟨o3_3, rfl⟩ := h; exact ⟨_, rfl, sk_env (ρ' := ([some (.d ((eL (eT D.int)) words_here0)), some (.d (D.int n0)), some (.ol (List.map D.int s3)), some (.d ((eT D.int) x4)), none] : Mp.Env)) rfl
 (sk_put rfl (ev_add (ev_ixL (ev_slotO rfl) (ev_call1 h__law_weight (ev_slot rfl))) ev_int) (ev_call1 h__law_weight (ev_slot rfl)) fun found5 => sk_env (ρ' := ([some (.d ((eL (eT D.int)) words_here0)), some (.d (D.int n0)), some (.ol (List.map D.int found5)), some (.d ((eT D.int) x4)), none] : Mp.Env)) rfl
 (sk_endS ⟨_, rfl⟩))⟩)
 (fun s3 ρ h => by
 obtain ⟨o3_3, rfl⟩ := h; exact (sk_retF (ev_bi1 f_tupL (ev_slotO rfl))))))
/-- slots of _law_shape: _law_numbers_here _law_p _law_n -/
def b__law_shape (i__law_next : Nat) : Ss := (.cons (.set 1 (.ix (.lst (.cons (.kint 2) (.cons (.kint 2) (.cons (.kint 3) (.cons (.kint 5) .nil))))) (.call i__law_next (.cons (.slot 0) (.cons (.kint 4) .nil)))))
 (.cons (.set 2 (.ix (.lst (.cons (.call i__law_next (.cons (.slot 0) (.cons (.kint 6) .nil))) (.cons (.call i__law_next (.cons (.slot 0) (.cons (.kint 5) .nil))) (.cons (.call i__law_next (.cons (.slot 0) (.cons (.kint 4) .nil))) .nil)))) (.bin .add (.bi .int (.cons (.cmp .gt (.slot 1) (.kint 2)) .nil)) (.bi .int (.cons (.cmp .gt (.slot 1) (.kint 3)) .nil)))))
 (.cons (.ret (.tup (.cons (.slot 1) (.cons (.slot 2) .nil))))
 .nil)))
@[irreducible] def g__law_shape (u_ : Unit) : M (Int × Int) :=
 (M.bind (tB2 oIx (tDisp [(M.ok 2), (M.ok 2), (M.ok 3), (M.ok 5)]) (tB2 g__law_next (M.ok ()) (M.ok 4))) fun p1 =>
 (M.bind (tB2 oIx (tDisp [(tB2 g__law_next (M.ok ()) (M.ok 6)), (tB2 g__law_next (M.ok ()) (M.ok 5)), (tB2 g__law_next (M.ok ()) (M.ok 4))]) (tB2 oAdd (tB1 oB2i (tB2 oGt (M.ok p1) (M.ok 2))) (tB1 oB2i (tB2 oGt (M.ok p1) (M.ok 3))))) fun n2 =>
 (tB2 (fun x y => M.ok (x, y)) (M.ok p1) (M.ok n2))))
theorem s__law_shape {G : Cfg} {i__law_next : Nat} {C : Nat → List D → M D} (hC : G.call = C) (h__law_next : ∀ (a0 : Unit), ∀ (a1 : Int), Sim D.int (C i__law_next [eR a0, D.int a1]) (g__law_next a0 a1)) (u_ : Unit) : SK (RF (eP2 D.int D.int)) G (b__law_shape i__law_next) [] ([some (.d .st), none, none] : Mp.Env) (g__law_shape u_) := by
 subst hC; unfold b__law_shape g__law_shape
 exact (sk_set (ev_ixL (ev_lst (evs_cons ev_int (evs_cons ev_int (evs_cons ev_int (evs_cons ev_int evs_nil))))) (ev_call2 h__law_next (ev_slot rfl) ev_int)) fun p1 => sk_env (ρ' := ([some (.d .st), some (.d (D.int p1)), none] : Mp.Env)) rfl
 (sk_set (ev_ixL (ev_lst (evs_cons (ev_call2 h__law_next (ev_slot rfl) ev_int) (evs_cons (ev_call2 h__law_next (ev_slot rfl) ev_int) (evs_cons (ev_call2 h__law_next (ev_slot rfl) ev_int) evs_nil)))) (ev_add (ev_bi1 f_intB (ev_cmp (e1 := D.int) (e2 := D.int) c_gt (ev_slot rfl) ev_int)) (ev_bi1 f_intB (ev_cmp (e1 := D.int) (e2 := D.int) c_gt (ev_slot rfl) ev_int)))) fun n2 => sk_env (ρ' := ([some (.d .st), some (.d (D.int p1)), some (.d (D.int n2))] : Mp.Env)) rfl
 (sk_retF (ev_tup2 (ev_slot rfl) (ev_slot rfl)))))
/-- slots of _law_dual: _law_p _law_n _law_words_here _law_found _law_y _law_x _law_k -/
def b__law_dual (i__law_all : Nat) : Ss := (.cons (.own 3 (.lst .nil))
 (.cons (.for_ [4] (.seq (.call i__law_all (.cons (.slot 0) (.cons (.slot 1) .nil))))
 (.cons (.if_ (.cmp .eq (.bi .len (.cons (.comp (.slot 5) [5] (.seq (.slot 2)) (.cons (.cmp .ne (.bin .mod (.bi .sum (.cons (.comp (.bin .mul (.ix (.slot 5) (.slot 6)) (.ix (.slot 4) (.slot 6))) [6] (.rng1 (.slot 1)) .nil) .nil)) (.slot 0)) (.kint 0)) .nil)) .nil)) (.kint 0))
 (.cons (.app 3 (.slot 4))
 .nil)
 .nil)
 .nil))
 (.cons (.frz 3)
 (.cons (.ret (.slot 3))
 .nil))))
@[irreducible] def g__law_dual (p0 : Int) (n0 : Int) (words_here0 : (List (List Int))) : M (List (List Int)) :=
 (M.bind (tDisp []) fun found1 =>
 (M.bind (tB2 g__law_all (M.ok p0) (M.ok n0)) fun l => M.bind (tForS (fun x3 (s2 : (List (List Int))) =>
 (tIf (tB2 oEq (tB1 oLen (tCompI (M.ok words_here0) (fun x4 => (tB2 oNe (tB2 oMod (tB1 oSum (tComp (tB1 oRng1 (M.ok n0)) fun x5 => (tB2 oMul (tB2 oIx (M.ok x4) (M.ok x5)) (tB2 oIx (M.ok x3) (M.ok x5))))) (M.ok p0)) (M.ok 0))) fun x4 => (M.ok x4))) (M.ok 0))
 ((M.bind (M.bind (M.ok x3) (oApp s2)) fun found6 =>
 (M.ok found6)))
 ((M.ok s2)))) l found1) fun s2 =>
 (M.ok s2)))
theorem s__law_dual {G : Cfg} {i__law_all : Nat} {C : Nat → List D → M D} (hC : G.call = C) (h__law_all : ∀ (a0 : Int), ∀ (a1 : Int), Sim (eL (eT D.int)) (C i__law_all [D.int a0, D.int a1]) (g__law_all a0 a1)) (p0 : Int) (n0 : Int) (words_here0 : (List (List Int))) : SK (RF (eL (eT D.int))) G (b__law_dual i__law_all) [] ([some (.d (D.int p0)), some (.d (D.int n0)), some (.d ((eL (eT D.int)) words_here0)), none, none, none, none] : Mp.Env) (g__law_dual p0 n0 words_here0) := by
 subst hC; unfold b__law_dual g__law_dual
 exact (sk_own (ev_lst evs_nil) fun found1 => sk_env (ρ' := ([some (.d (D.int p0)), some (.d (D.int n0)), some (.d ((eL (eT D.int)) words_here0)), some (.ol (List.map (eT D.int) found1)), none, none, none] : Mp.Env)) rfl
 (sk_forS (fun (s2 : (List (List Int))) ρ => ∃ o2_4 : Option SV, ρ = ([some (.d (D.int p0)), some (.d (D.int n0)), some (.d ((eL (eT D.int)) words_here0)), some (.ol (List.map (eT D.int) s2)), o2_4, none, none] : Mp.Env)) (it_L (ev_call2 h__law_all (ev_slot rfl) (ev_slot rfl))) ⟨_, rfl⟩
 (fun x3 s2 ρ h => by
 obtain ⟨o2_4, rfl⟩ := h; exact ⟨_, rfl, sk_env (ρ' := ([some (.d (D.int p0)), some (.d (D.int n0)), some (.d ((eL (eT D.int)) words_here0)), some (.ol (List.map (eT D.int) s2)), some (.d ((eT D.int) x3)), none, none] : Mp.Env)) rfl
 (sk_if (ev_cmp (e1 := D.int) (e2 := D.int) (c_eq (n := 0) eq_int (by decide)) (ev_bi1 f_lenL (ev_compI (it_L (ev_slot rfl)) fun x4 => ⟨_, rfl, (ev_cmp (e1 := D.int) (e2 := D.int) (c_ne (n := 0) eq_int (by decide)) (ev_mod (ev_bi1 f_sum (ev_comp (it_rng1 (ev_slot rfl)) fun x5 => ⟨_, rfl, (ev_mul (ev_ixT (ev_slot rfl) (ev_slot rfl)) (ev_ixT (ev_slot rfl) (ev_slot rfl)))⟩)) (ev_slot rfl)) ev_int), (ev_slot rfl)⟩)) ev_int)
 (sk_app rfl (ev_slot rfl) fun found6 => sk_env (ρ' := ([some (.d (D.int p0)), some (.d (D.int n0)), some (.d ((eL (eT D.int)) words_here0)), some (.ol (List.map (eT D.int) found6)), some (.d ((eT D.int) x3)), none, none] : Mp.Env)) rfl
 (sk_pop (sk_endS ⟨_, rfl⟩)))
 (sk_pop (sk_endS ⟨_, rfl⟩)))⟩)
 (fun s2 ρ h => by
 obtain ⟨o2_4, rfl⟩ := h; exact (sk_frz rfl (sk_env (ρ' := ([some (.d (D.int p0)), some (.d (D.int n0)), some (.d ((eL (eT D.int)) words_here0)), some (.d ((eL (eT D.int)) s2)), o2_4, none, none] : Mp.Env)) rfl
 (sk_retF (ev_slot rfl)))))))
/-- slots of _law_places: _law_n _law_s _law_found _law_k _law_places_here -/
def b__law_places : Ss := (.cons (.set 2 (.lst (.cons (.tup .nil) .nil)))
 (.cons (.for_ [3] (.rng1 (.slot 0))
 (.cons (.set 2 (.bin .add (.slot 2) (.comp (.bin .add (.slot 4) (.tup (.cons (.slot 3) .nil))) [4] (.seq (.slot 2)) .nil)))
 .nil))
 (.cons (.ret (.comp (.slot 4) [4] (.seq (.slot 2)) (.cons (.cmp .eq (.bi .len (.cons (.slot 4) .nil)) (.slot 1)) .nil)))
 .nil)))
@[irreducible] def g__law_places (n0 : Int) (s0 : Int) : M (List (List Int)) :=
 (M.bind (tDisp [(tDisp [])]) fun found1 =>
 (M.bind (tB1 oRng1 (M.ok n0)) fun l => M.bind (tForS (fun x3 (s2 : (List (List Int))) =>
 (M.bind (tB2 oCat (M.ok s2) (tComp (M.ok s2) fun x5 => (tB2 oCat (M.ok x5) (tDisp [(M.ok x3)])))) fun found4 =>
 (M.ok found4))) l found1) fun s2 =>
 (tCompI (M.ok s2) (fun x6 => (tB2 oEq (tB1 oLen (M.ok x6)) (M.ok s0))) fun x6 => (M.ok x6))))
theorem s__law_places {G : Cfg} (n0 : Int) (s0 : Int) : SK (RF (eL (eT D.int))) G (b__law_places) [] ([some (.d (D.int n0)), some (.d (D.int s0)), none, none, none] : Mp.Env) (g__law_places n0 s0) := by
 unfold b__law_places g__law_places
 exact (sk_set (ev_lst (evs_cons (ev_tupH evs_nil) evs_nil)) fun found1 => sk_env (ρ' := ([some (.d (D.int n0)), some (.d (D.int s0)), some (.d ((eL (eT D.int)) found1)), none, none] : Mp.Env)) rfl
 (sk_forS (fun (s2 : (List (List Int))) ρ => ∃ o2_3 : Option SV, ρ = ([some (.d (D.int n0)), some (.d (D.int s0)), some (.d ((eL (eT D.int)) s2)), o2_3, none] : Mp.Env)) (it_rng1 (ev_slot rfl)) ⟨_, rfl⟩
 (fun x3 s2 ρ h => by
 obtain ⟨o2_3, rfl⟩ := h; exact ⟨_, rfl, sk_env (ρ' := ([some (.d (D.int n0)), some (.d (D.int s0)), some (.d ((eL (eT D.int)) s2)), some (.d (D.int x3)), none] : Mp.Env)) rfl
 (sk_set (ev_catL (ev_slot rfl) (ev_comp (it_L (ev_slot rfl)) fun x5 => ⟨_, rfl, (ev_catT (ev_slot rfl) (ev_tupH (evs_cons (ev_slot rfl) evs_nil)))⟩)) fun found4 => sk_env (ρ' := ([some (.d (D.int n0)), some (.d (D.int s0)), some (.d ((eL (eT D.int)) found4)), some (.d (D.int x3)), none] : Mp.Env)) rfl
 (sk_endS ⟨_, rfl⟩))⟩)
 (fun s2 ρ h => by
 obtain ⟨o2_3, rfl⟩ := h; exact (sk_retF (ev_compI (it_L (ev_slot rfl)) fun x6 => ⟨_, rfl, (ev_cmp (e1 := D.int) (e2 := D.int) (c_eq (n := 0) eq_int (by decide)) (ev_bi1 f_lenT (ev_slot rfl)) (ev_slot rfl)), (ev_slot rfl)⟩)))))
/-- slots of _law_zero_pairs: _law_words_here _law_places_here _law_total _law_word _law_chosen _law_k -/
def b__law_zero_pairs : Ss := (.cons (.set 2 (.kint 0))
 (.cons (.for_ [3] (.seq (.slot 0))
 (.cons (.for_ [4] (.seq (.slot 1))
 (.cons (.set 2 (.bin .add (.slot 2) (.bi .int (.cons (.cmp .eq (.bi .len (.cons (.comp (.slot 5) [5] (.seq (.slot 4)) (.cons (.cmp .ne (.ix (.slot 3) (.slot 5)) (.kint 0)) .nil)) .nil)) (.kint 0)) .nil))))
 .nil))
 .nil))
 (.cons (.ret (.slot 2))
 .nil)))
@[irreducible] def g__law_zero_pairs (words_here0 : (List (List Int))) (places_here0 : (List (List Int))) : M Int :=
 (M.bind (M.ok 0) fun total1 =>
 (M.bind (M.ok words_here0) fun l => M.bind (tForS (fun x3 (s2 : Int) =>
 (M.bind (M.ok places_here0) fun l => M.bind (tForS (fun x5 (s4 : Int) =>
 (M.bind (tB2 oAdd (M.ok s4) (tB1 oB2i (tB2 oEq (tB1 oLen (tCompI (M.ok x5) (fun x7 => (tB2 oNe (tB2 oIx (M.ok x3) (M.ok x7)) (M.ok 0))) fun x7 => (M.ok x7))) (M.ok 0)))) fun total6 =>
 (M.ok total6))) l s2) fun s4 =>
 (M.ok s4))) l total1) fun s2 =>
 (M.ok s2)))
theorem s__law_zero_pairs {G : Cfg} (words_here0 : (List (List Int))) (places_here0 : (List (List Int))) : SK (RF D.int) G (b__law_zero_pairs) [] ([some (.d ((eL (eT D.int)) words_here0)), some (.d ((eL (eT D.int)) places_here0)), none, none, none, none] : Mp.Env) (g__law_zero_pairs words_here0 places_here0) := by
 unfold b__law_zero_pairs g__law_zero_pairs
 exact (sk_set ev_int fun total1 => sk_env (ρ' := ([some (.d ((eL (eT D.int)) words_here0)), some (.d ((eL (eT D.int)) places_here0)), some (.d (D.int total1)), none, none, none] : Mp.Env)) rfl
 (sk_forS (fun (s2 : Int) ρ => ∃ o2_3 o2_4 : Option SV, ρ = ([some (.d ((eL (eT D.int)) words_here0)), some (.d ((eL (eT D.int)) places_here0)), some (.d (D.int s2)), o2_3, o2_4, none] : Mp.Env)) (it_L (ev_slot rfl)) ⟨_, _, rfl⟩
 (fun x3 s2 ρ h => by
 obtain ⟨o2_3, o2_4, rfl⟩ := h; exact ⟨_, rfl, sk_env (ρ' := ([some (.d ((eL (eT D.int)) words_here0)), some (.d ((eL (eT D.int)) places_here0)), some (.d (D.int s2)), some (.d ((eT D.int) x3)), o2_4, none] : Mp.Env)) rfl
 (sk_forS (fun (s4 : Int) ρ => ∃ o4_4 : Option SV, ρ = ([some (.d ((eL (eT D.int)) words_here0)), some (.d ((eL (eT D.int)) places_here0)), some (.d (D.int s4)), some (.d ((eT D.int) x3)), o4_4, none] : Mp.Env)) (it_L (ev_slot rfl)) ⟨_, rfl⟩
 (fun x5 s4 ρ h => by
 obtain ⟨o4_4, rfl⟩ := h; exact ⟨_, rfl, sk_env (ρ' := ([some (.d ((eL (eT D.int)) words_here0)), some (.d ((eL (eT D.int)) places_here0)), some (.d (D.int s4)), some (.d ((eT D.int) x3)), some (.d ((eT D.int) x5)), none] : Mp.Env)) rfl
 (sk_set (ev_add (ev_slot rfl) (ev_bi1 f_intB (ev_cmp (e1 := D.int) (e2 := D.int) (c_eq (n := 0) eq_int (by decide)) (ev_bi1 f_lenL (ev_compI (it_T (ev_slot rfl)) fun x7 => ⟨_, rfl, (ev_cmp (e1 := D.int) (e2 := D.int) (c_ne (n := 0) eq_int (by decide)) (ev_ixT (ev_slot rfl) (ev_slot rfl)) ev_int), (ev_slot rfl)⟩)) ev_int))) fun total6 => sk_env (ρ' := ([some (.d ((eL (eT D.int)) words_here0)), some (.d ((eL (eT D.int)) places_here0)), some (.d (D.int total6)), some (.d ((eT D.int) x3)), some (.d ((eT D.int) x5)), none] : Mp.Env)) rfl
 (sk_endS ⟨_, rfl⟩))⟩)
 (fun s4 ρ h => by
 obtain ⟨o4_4, rfl⟩ := h; exact (sk_endS ⟨_, _, rfl⟩)))⟩)
 (fun s2 ρ h => by
 obtain ⟨o2_3, o2_4, rfl⟩ := h; exact (sk_retF (ev_slot rfl)))))
/-- slots of _law_told: _law_p _law_n _law_numbers_here e -/
def b__law_told (i_macwilliams : Nat) : Ss := (.cons (.try_ (.cons (.ret (.call i_macwilliams (.cons (.slot 0) (.cons (.slot 1) (.cons (.slot 2) .nil)))))
 .nil) [⟨2, some 3, .ret (.fld 2)⟩, ⟨1, none, .ret (.str "malformed")⟩])
 .nil)
@[irreducible] def g__law_told (p0 : Int) (n0 : Int) (numbers_here0 : D) : M ((List Int) ⊕ Str) :=
 (M.bind (tTry (M.bind (tInl Str (tB3 g_macwilliams (M.ok p0) (M.ok n0) (M.ok numbers_here0))) fun x => M.ok (some x)) (fun c d => (if xsub c 2 then M.bind (M.opt (Option.map Sum.inr (xStr 2 c d))) (fun v => M.ok (some v)) else (if xsub c 1 then M.bind (M.opt (Option.map Sum.inr (some ("malformed" : Str)))) (fun v => M.ok (some v)) else (M.exc c d))))) (tOut M.stuck (fun x => x)))
theorem s__law_told {G : Cfg} {i_macwilliams : Nat} {C : Nat → List D → M D} (hC : G.call = C) (h_macwilliams : ∀ (a0 : Int), ∀ (a1 : Int), ∀ (a2 : D), Sim (eT D.int) (C i_macwilliams [D.int a0, D.int a1, id a2]) (g_macwilliams a0 a1 a2)) (p0 : Int) (n0 : Int) (numbers_here0 : D) : SK (RF (eW (eT D.int) D.str)) G (b__law_told i_macwilliams) [] ([some (.d (D.int p0)), some (.d (D.int n0)), some (.d (id numbers_here0)), none] : Mp.Env) (g__law_told p0 n0 numbers_here0) := by
 subst hC; unfold b__law_told g__law_told
 exact (sk_tryR (enc := (eW (eT D.int) D.str)) (sk_ret (inj := some) (ev_inl (ev_call3 h_macwilliams (ev_slot rfl) (ev_slot rfl) (ev_slot rfl))) (fun _ => rfl))
 (fun c d => (hd_ret (tx := (Option.map Sum.inr (xStr 2 c d))) (xk_map (g := (eW (eT D.int) D.str)) (f := Sum.inr) xStr_ok (fun _ => rfl)) (hd_ret (tx := (Option.map Sum.inr (some ("malformed" : Str)))) (xk_map (g := (eW (eT D.int) D.str)) (f := Sum.inr) xk_str (fun _ => rfl)) hd_nil)))
 (fun _ => rfl)
 SimR.stuck)
/-- slots of _law_turning: _law_p _law_n _law_words_here _law_table _law_i _law_x _law_row _law_y _law_c _law_j _law_k -/
def b__law_turning (i__law_all i__law_weight : Nat) : Ss := (.cons (.set 2 (.call i__law_all (.cons (.slot 0) (.cons (.slot 1) .nil))))
 (.cons (.own 3 (.lst .nil))
 (.cons (.for_ [4] (.rng1 (.bin .add (.slot 1) (.kint 1)))
 (.cons (.set 5 (.bi .tuple (.cons (.comp (.bi .int (.cons (.cmp .lt (.slot 10) (.slot 4)) .nil)) [10] (.rng1 (.slot 1)) .nil) .nil)))
 (.cons (.own 6 (.comp (.kint 0) [9] (.rng1 (.bin .add (.slot 1) (.kint 1))) .nil))
 (.cons (.for_ [7] (.seq (.slot 2))
 (.cons (.set 8 (.bin .mod (.bi .sum (.cons (.comp (.bin .mul (.ix (.slot 5) (.slot 10)) (.ix (.slot 7) (.slot 10))) [10] (.rng1 (.slot 1)) .nil) .nil)) (.slot 0)))
 (.cons (.put 6 (.call i__law_weight (.cons (.slot 7) .nil)) (.bin .sub (.bin .add (.ix (.slot 6) (.call i__law_weight (.cons (.slot 7) .nil))) (.bi .int (.cons (.cmp .eq (.slot 8) (.kint 0)) .nil))) (.bi .int (.cons (.cmp .eq (.slot 8) (.kint 1)) .nil))))
 .nil)))
 (.cons (.frz 6)
 (.cons (.app 3 (.slot 6))
 .nil))))))
 (.cons (.frz 3)
 (.cons (.ret (.slot 3))
 .nil)))))
@[irreducible] def g__law_turning (p0 : Int) (n0 : Int) : M (List (List Int)) :=
 (M.bind (tB2 g__law_all (M.ok p0) (M.ok n0)) fun words_here1 =>
 (M.bind (tDisp []) fun table2 =>
 (M.bind (tB1 oRng1 (tB2 oAdd (M.ok n0) (M.ok 1))) fun l => M.bind (tForS (fun x4 (s3 : (List (List Int))) =>
 (M.bind (tB1 M.ok (tComp (tB1 oRng1 (M.ok n0)) fun x6 => (tB1 oB2i (tB2 oLt (M.ok x6) (M.ok x4))))) fun x5 =>
 (M.bind (tComp (tB1 oRng1 (tB2 oAdd (M.ok n0) (M.ok 1))) fun x8 => (M.ok 0)) fun row7 =>
 (M.bind (M.ok words_here1) fun l => M.bind (tForS (fun x10 (s9 : (List Int)) =>
 (M.bind (tB2 oMod (tB1 oSum (tComp (tB1 oRng1 (M.ok n0)) fun x12 => (tB2 oMul (tB2 oIx (M.ok x5) (M.ok x12)) (tB2 oIx (M.ok x10) (M.ok x12))))) (M.ok p0)) fun c11 =>
 (M.bind (M.bind (tB2 oSub (tB2 oAdd (tB2 oIx (M.ok s9) (tB1 g__law_weight (M.ok x10))) (tB1 oB2i (tB2 oEq (M.ok c11) (M.ok 0)))) (tB1 oB2i (tB2 oEq (M.ok c11) (M.ok 1)))) fun v => M.bind (tB1 g__law_weight (M.ok x10)) fun n => oSet s9 n v) fun row13 =>
 (M.ok row13)))) l row7) fun s9 =>
 (M.bind (M.bind (M.ok s9) (oApp s3)) fun table14 =>
 (M.ok table14)))))) l table2) fun s3 =>
 (M.ok s3))))
theorem s__law_turning {G : Cfg} {i__law_all i__law_weight : Nat} {C : Nat → List D → M D} (hC : G.call = C) (h__law_all : ∀ (a0 : Int), ∀ (a1 : Int), Sim (eL (eT D.int)) (C i__law_all [D.int a0, D.int a1]) (g__law_all a0 a1)) (h__law_weight : ∀ (a0 : (List Int)), Sim D.int (C i__law_weight [(eT D.int) a0]) (g__law_weight a0)) (p0 : Int) (n0 : Int) : SK (RF (eL (eL D.int))) G (b__law_turning i__law_all i__law_weight) [] ([some (.d (D.int p0)), some (.d (D.int n0)), none, none, none, none, none, none, none, none, none] : Mp.Env) (g__law_turning p0 n0) := by
 subst hC; unfold b__law_turning g__law_turning
 exact (sk_set (ev_call2 h__law_all (ev_slot rfl) (ev_slot rfl)) fun words_here1 => sk_env (ρ' := ([some (.d (D.int p0)), some (.d (D.int n0)), some (.d ((eL (eT D.int)) words_here1)), none, none, none, none, none, none, none, none] : Mp.Env)) rfl
 (sk_own (ev_lst evs_nil) fun table2 => sk_env (ρ' := ([some (.d (D.int p0)), some (.d (D.int n0)), some (.d ((eL (eT D.int)) words_here1)), some (.ol (List.map (eL D.int) table2)), none, none, none, none, none, none, none] : Mp.Env)) rfl
 (sk_forS (fun (s3 : (List (List Int))) ρ => ∃ o3_4 o3_5 o3_6 o3_7 o3_8 : Option SV, ρ = ([some (.d (D.int p0)), some (.d (D.int n0)), some (.d ((eL (eT D.int)) words_here1)), some (.ol (List.map (eL D.int) s3)), o3_4, o3_5, o3_6, o3_7, o3_8, none, none] : Mp.Env)) (it_rng1 (ev_add (ev_slot rfl) ev_int)) ⟨_, _, _, _, _, rfl⟩
 (fun x4 s3 ρ h => by
 obtain ⟨o3_4, o3_5, o3_6, o3_7, o3_8, rfl⟩ := h; exact ⟨_, rfl, sk_env (ρ' := ([some (.d (D.int p0)), some (.d (D.int n0)), some (.d ((eL (eT D.int)) words_here1)), some (.ol (List.map (eL D.int) s3)), some (.d (D.int x4)), o3_5, o3_6, o3_7, o3_8, none, none] : Mp.Env)) rfl
 (sk_set (ev_bi1 f_tupL (ev_comp (it_rng1 (ev_slot rfl)) fun x6 => ⟨_, rfl, (ev_bi1 f_intB (ev_cmp (e1 := D.int) (e2 := D.int) c_lt (ev_slot rfl) (ev_slot rfl)))⟩)) fun x5 => sk_env (ρ' := ([some (.d (D.int p0)), some (.d (D.int n0)), some (.d ((eL (eT D.int)) words_here1)), some (.ol (List.map (eL D.int) s3)), some (.d (D.int x4)), some (.d ((eT D.int) x5)), o3_6, o3_7, o3_8, none, none] : Mp.Env)) rfl
 (sk_own (ev_comp (it_rng1 (ev_add (ev_slot rfl) ev_int)) fun x8 => ⟨_, rfl, ev_int⟩) fun row7 => sk_env (ρ' := ([some (.d (D.int p0)), some (.d (D.int n0)), some (.d ((eL (eT D.int)) words_here1)), some (.ol (List.map (eL D.int) s3)), some (.d (D.int x4)), some (.d ((eT D.int) x5)), some (.ol (List.map D.int row7)), o3_7, o3_8, none, none] : Mp.Env)) rfl
 (sk_forS (fun (s9 : (List Int)) ρ => ∃ o9_7 o9_8 : Option SV, ρ = ([some (.d (D.int p0)), some (.d (D.int n0)), some (.d ((eL (eT D.int)) words_here1)), some (.ol (List.map (eL D.int) s3)), some (.d (D.int x4)), some (.d ((eT D.int) x5)), some (.ol (List.map D.int s9)), o9_7, o9_8, none, none] : Mp.Env)) (it_L (ev_slot rfl)) ⟨_, _, rfl⟩
 (fun x10 s9 ρ h => by
 obtain ⟨o9_7, o9_8, rfl⟩ := h; exact ⟨_, rfl, sk_env (ρ' := ([some (.d (D.int p0)), some (.d (D.int n0)), some (.d ((eL (eT D.int)) words_here1)), some (.ol (List.map (eL D.int) s3)), some (.d (D.int x4)), some (.d ((eT D.int) x5)), some (.ol (List.map D.int s9)), some (.d ((eT D.int) x10)), o9_8, none, none] : Mp.Env)) rfl
 (sk_set (ev_mod (ev_bi1 f_sum (ev_comp (it_rng1 (ev_slot rfl)) fun x12 => ⟨_, rfl, (ev_mul (ev_ixT (ev_slot rfl) (ev_slot rfl)) (ev_ixT (ev_slot rfl) (ev_slot rfl)))⟩)) (ev_slot rfl)) fun c11 => sk_env (ρ' := ([some (.d (D.int p0)), some (.d (D.int n0)), some (.d ((eL (eT D.int)) words_here1)), some (.ol (List.map (eL D.int) s3)), some (.d (D.int x4)), some (.d ((eT D.int) x5)), some (.ol (List.map D.int s9)), some (.d ((eT D.int) x10)), some (.d (D.int c11)), none, none] : Mp.Env)) rfl
 (sk_put rfl (ev_sub (ev_add (ev_ixL (ev_slotO rfl) (ev_call1 h__law_weight (ev_slot rfl))) (ev_bi1 f_intB (ev_cmp (e1 := D.int) (e2 := D.int) (c_eq (n := 0) eq_int (by decide)) (ev_slot rfl) ev_int))) (ev_bi1 f_intB (ev_cmp (e1 := D.int) (e2 := D.int) (c_eq (n := 0) eq_int (by decide)) (ev_slot rfl) ev_int))) (ev_call1 h__law_weight (ev_slot rfl)) fun row13 => sk_env (ρ' := ([some (.d (D.int p0)), some (.d (D.int n0)), some (.d ((eL (eT D.int)) words_here1)), some (.ol (List.map (eL D.int) s3)), some (.d (D.int x4)), some (.d ((eT D.int) x5)), some (.ol (List.map D.int row13)), some (.d ((eT D.int) x10)), some (.d (D.int c11)), none, none] : Mp.Env)) rfl
 (sk_endS ⟨_, _, rfl⟩)))⟩)
 (fun s9 ρ h => by
 obtain ⟨o9_7, o9_8, rfl⟩ := h; exact (sk_frz rfl (sk_env (ρ' := ([some (.d (D.int p0)), some (.d (D.int n0)), some (.d ((eL (eT D.int)) words_here1)), some (.ol (List.map (eL D.int) s3)), some (.d (D.int x4)), some (.d ((eT D.int) x5)), some (.d ((eL D.int) s9)), o9_7, o9_8, none, none] : Mp.Env)) rfl
 (sk_app rfl (ev_slot rfl) fun table14 => sk_env (ρ' := ([some (.d (D.int p0)), some (.d (D.int n0)), some (.d ((eL (eT D.int)) words_here1)), some (.ol (List.map (eL D.int) table14)), some (.d (D.int x4)), some (.d ((eT D.int) x5)), some (.d ((eL D.int) s9)), o9_7, o9_8, none, none] : Mp.Env)) rfl
 (sk_endS ⟨_, _, _, _, _, rfl⟩))))))))⟩)
 (fun s3 ρ h => by
 obtain ⟨o3_4, o3_5, o3_6, o3_7, o3_8, rfl⟩ := h; exact (sk_frz rfl (sk_env (ρ' := ([some (.d (D.int p0)), some (.d (D.int n0)), some (.d ((eL (eT D.int)) words_here1)), some (.d ((eL (eL D.int)) s3)), o3_4, o3_5, o3_6, o3_7, o3_8, none, none] : Mp.Env)) rfl
 (sk_retF (ev_slot rfl))))))))
/-- slots of _law_due: _law_p _law_n _law_numbers_here _law_table _law_found _law_j _law_total _law_i -/
def b__law_due (i__law_turning : Nat) : Ss := (.cons (.set 3 (.call i__law_turning (.cons (.slot 0) (.cons (.slot 1) .nil))))
 (.cons (.own 4 (.lst .nil))
 (.cons (.for_ [5] (.rng1 (.bin .add (.slot 1) (.kint 1)))
 (.cons (.set 6 (.bi .sum (.cons (.comp (.bin .mul (.ix (.slot 2) (.slot 7)) (.ix (.ix (.slot 3) (.slot 7)) (.slot 5))) [7] (.rng1 (.bin .add (.slot 1) (.kint 1))) .nil) .nil)))
 (.cons (.if_ (.cmp .ne (.bin .mod (.slot 6) (.bi .sum (.cons (.slot 2) .nil))) (.kint 0))
 (.cons (.ret (.kstr "fraction"))
 .nil)
 .nil)
 (.cons (.app 4 (.bin .fdiv (.slot 6) (.bi .sum (.cons (.slot 2) .nil))))
 .nil))))
 (.cons (.ret (.bi .tuple (.cons (.slot 4) .nil)))
 .nil))))
@[irreducible] def g__law_due (p0 : Int) (n0 : Int) (numbers_here0 : (List Int)) : M ((List Int) ⊕ Str) :=
 (M.bind (tB2 g__law_turning (M.ok p0) (M.ok n0)) fun table1 =>
 (M.bind (tDisp []) fun found2 =>
 (M.bind (tB1 oRng1 (tB2 oAdd (M.ok n0) (M.ok 1))) fun l => tAfter (tFor (fun x4 (s3 : (List Int)) =>
 (M.bind (tB1 oSum (tComp (tB1 oRng1 (tB2 oAdd (M.ok n0) (M.ok 1))) fun x6 => (tB2 oMul (tB2 oIx (M.ok numbers_here0) (M.ok x6)) (tB2 oIx (tB2 oIx (M.ok table1) (M.ok x6)) (M.ok x4))))) fun total5 =>
 (tIf (tB2 oNe (tB2 oMod (M.ok total5) (tB1 oSum (M.ok numbers_here0))) (M.ok 0))
 ((M.bind (tInr (List Int) (M.ok ("fraction" : Str))) fun x => M.ok (TO.ret x)))
 ((M.bind (M.bind (tB2 oDiv (M.ok total5) (tB1 oSum (M.ok numbers_here0))) (oApp s3)) fun found7 =>
 (M.ok (TO.nx found7))))))) l found2) (fun s3 =>
 (tInl Str (tB1 M.ok (M.ok s3)))) fun (b : ((List Int) ⊕ Str)) => M.ok b)))
theorem s__law_due {G : Cfg} {i__law_turning : Nat} {C : Nat → List D → M D} (hC : G.call = C) (h__law_turning : ∀ (a0 : Int), ∀ (a1 : Int), Sim (eL (eL D.int)) (C i__law_turning [D.int a0, D.int a1]) (g__law_turning a0 a1)) (p0 : Int) (n0 : Int) (numbers_here0 : (List Int)) : SK (RF (eW (eT D.int) D.str)) G (b__law_due i__law_turning) [] ([some (.d (D.int p0)), some (.d (D.int n0)), some (.d ((eT D.int) numbers_here0)), none, none, none, none, none] : Mp.Env) (g__law_due p0 n0 numbers_here0) := by
 subst hC; unfold b__law_due g__law_due
 exact (sk_set (ev_call2 h__law_turning (ev_slot rfl) (ev_slot rfl)) fun table1 => sk_env (ρ' := ([some (.d (D.int p0)), some (.d (D.int n0)), some (.d ((eT D.int) numbers_here0)), some (.d ((eL (eL D.int)) table1)), none, none, none, none] : Mp.Env)) rfl
 (sk_own (ev_lst evs_nil) fun found2 => sk_env (ρ' := ([some (.d (D.int p0)), some (.d (D.int n0)), some (.d ((eT D.int) numbers_here0)), some (.d ((eL (eL D.int)) table1)), some (.ol (List.map D.int found2)), none, none, none] : Mp.Env)) rfl
 (sk_for (enc := (eW (eT D.int) D.str)) (fun (s3 : (List Int)) ρ => ∃ o3_5 o3_6 : Option SV, ρ = ([some (.d (D.int p0)), some (.d (D.int n0)), some (.d ((eT D.int) numbers_here0)), some (.d ((eL (eL D.int)) table1)), some (.ol (List.map D.int s3)), o3_5, o3_6, none] : Mp.Env)) (it_rng1 (ev_add (ev_slot rfl) ev_int)) ⟨_, _, rfl⟩
 (fun x4 s3 ρ h => by
 obtain ⟨o3_5, o3_6, rfl⟩ := h; exact ⟨_, rfl, sk_env (ρ' := ([some (.d (D.int p0)), some (.d (D.int n0)), some (.d ((eT D.int) numbers_here0)), some (.d ((eL (eL D.int)) table1)), some (.ol (List.map D.int s3)), some (.d (D.int x4)), o3_6, none] : Mp.Env)) rfl
 (sk_set (ev_bi1 f_sum (ev_comp (it_rng1 (ev_add (ev_slot rfl) ev_int)) fun x6 => ⟨_, rfl, (ev_mul (ev_ixT (ev_slot rfl) (ev_slot rfl)) (ev_ixL (ev_ixL (ev_slot rfl) (ev_slot rfl)) (ev_slot rfl)))⟩)) fun total5 => sk_env (ρ' := ([some (.d (D.int p0)), some (.d (D.int n0)), some (.d ((eT D.int) numbers_here0)), some (.d ((eL (eL D.int)) table1)), some (.ol (List.map D.int s3)), some (.d (D.int x4)), some (.d (D.int total5)), none] : Mp.Env)) rfl
 (sk_if (ev_cmp (e1 := D.int) (e2 := D.int) (c_ne (n := 0) eq_int (by decide)) (ev_mod (ev_slot rfl) (ev_bi1 f_sumT (ev_slot rfl))) ev_int)
 (sk_ret (ev_inr ev_str) (fun _ => rfl))
 (sk_pop (sk_app rfl (ev_div (ev_slot rfl) (ev_bi1 f_sumT (ev_slot rfl))) fun found7 => sk_env (ρ' := ([some (.d (D.int p0)), some (.d (D.int n0)), some (.d ((eT D.int) numbers_here0)), some (.d ((eL (eL D.int)) table1)), some (.ol (List.map D.int found7)), some (.d (D.int x4)), some (.d (D.int total5)), none] : Mp.Env)) rfl
 (sk_endL ⟨_, _, rfl⟩)))))⟩)
 (fun _ => rfl)
 (fun s3 ρ h => by
 obtain ⟨o3_5, o3_6, rfl⟩ := h; exact (sk_retF (ev_inl (ev_bi1 f_tupL (ev_slotO rfl))))))))
/-- slots of law: _law_script _law_numbers_here _law_words_here _law_dual_here _law_one _law_two _law_s _law_power _law_turn _law_at _law_changed _law_zeros _law_bad _law_p _law_n _law_k -/
def b_law (i__law_shape i__law_rows i__law_words i__law_dual i__law_numbers_of i__law_told i__law_next i_binomial_moment i__law_places i__law_zero_pairs i__law_due : Nat) : Ss := (.cons (.un [13, 14] (.call i__law_shape (.cons (.slot 1) .nil)))
 (.cons (.set 2 (.call i__law_words (.cons (.slot 13) (.cons (.slot 14) (.cons (.call i__law_rows (.cons (.slot 1) (.cons (.slot 13) (.cons (.slot 14) (.cons (.kint 3) .nil))))) .nil)))))
 (.cons (.set 3 (.call i__law_dual (.cons (.slot 13) (.cons (.slot 14) (.cons (.slot 2) .nil)))))
 (.cons (.set 4 (.call i__law_numbers_of (.cons (.slot 2) (.cons (.slot 14) .nil))))
 (.cons (.set 5 (.call i__law_numbers_of (.cons (.slot 3) (.cons (.slot 14) .nil))))
 (.cons (.if_ (.or (.cmp .ne (.call i__law_told (.cons (.slot 13) (.cons (.slot 14) (.cons (.slot 4) .nil)))) (.slot 5)) (.cmp .ne (.call i__law_told (.cons (.slot 13) (.cons (.slot 14) (.cons (.slot 5) .nil)))) (.slot 4)))
 (.cons (.ret (.kbl false))
 .nil)
 .nil)
 (.cons (.set 6 (.call i__law_next (.cons (.slot 1) (.cons (.bin .add (.slot 14) (.kint 1)) .nil))))
 (.cons (.if_ (.cmp .ne (.call i_binomial_moment (.cons (.slot 4) (.cons (.slot 6) .nil))) (.call i__law_zero_pairs (.cons (.slot 2) (.cons (.call i__law_places (.cons (.slot 14) (.cons (.slot 6) .nil))) .nil))))
 (.cons (.ret (.kbl false))
 .nil)
 .nil)
 (.cons (.set 7 (.kint 1))
 (.cons (.for_ [8] (.rng1 (.slot 6))
 (.cons (.set 7 (.bin .mul (.slot 7) (.slot 13)))
 .nil))
 (.cons (.if_ (.cmp .ne (.bin .mul (.call i_binomial_moment (.cons (.slot 4) (.cons (.slot 6) .nil))) (.slot 7)) (.bin .mul (.bi .len (.cons (.slot 2) .nil)) (.call i_binomial_moment (.cons (.slot 5) (.cons (.bin .sub (.slot 14) (.slot 6)) .nil)))))
 (.cons (.ret (.kbl false))
 .nil)
 .nil)
 (.cons (.set 9 (.call i__law_next (.cons (.slot 1) (.cons (.bin .add (.slot 14) (.kint 1)) .nil))))
 (.cons (.set 10 (.bin .add (.bin .add (.sl (.slot 4) .absent (.slot 9)) (.tup (.cons (.bin .add (.bin .add (.ix (.slot 4) (.slot 9)) (.kint 1)) (.call i__law_next (.cons (.slot 1) (.cons (.kint 3) .nil)))) .nil))) (.sl (.slot 4) (.bin .add (.slot 9) (.kint 1)) .absent)))
 (.cons (.if_ (.cmp .ne (.call i__law_told (.cons (.slot 13) (.cons (.slot 14) (.cons (.slot 10) .nil)))) (.call i__law_due (.cons (.slot 13) (.cons (.slot 14) (.cons (.slot 10) .nil)))))
 (.cons (.ret (.kbl false))
 .nil)
 .nil)
 (.cons (.set 11 (.bi .tuple (.cons (.comp (.kint 0) [15] (.rng1 (.bin .add (.slot 14) (.kint 1))) .nil) .nil)))
 (.cons (.for_ [12] (.seq (.lst (.cons (.bin .add (.slot 4) (.tup (.cons (.kint 0) .nil))) (.cons (.sl (.slot 4) (.kint 1) .absent) (.cons (.bi .list (.cons (.slot 4) .nil)) (.cons .knon (.cons (.slot 11) (.cons (.bin .add (.tup (.cons (.neg (.kint 1)) .nil)) (.sl (.slot 4) (.kint 1) .absent)) (.cons (.bin .add (.tup (.cons (.kbl true) .nil)) (.sl (.slot 4) (.kint 1) .absent)) (.cons (.bin .add (.tup (.cons .knon .nil)) (.sl (.slot 4) (.kint 1) .absent)) .nil))))))))))
 (.cons (.if_ (.cmp .ne (.call i__law_told (.cons (.slot 13) (.cons (.slot 14) (.cons (.slot 12) .nil)))) (.kstr "malformed"))
 (.cons (.ret (.kbl false))
 .nil)
 .nil)
 .nil))
 (.cons (.ret (.kbl true))
 .nil)))))))))))))))))
@[irreducible] def g_law : M Bool :=
 (M.bind (tB1 g__law_shape (M.ok ())) fun u1 =>
 (M.bind (tB3 g__law_words (M.ok u1.1) (M.ok u1.2) (tB4 g__law_rows (M.ok ()) (M.ok u1.1) (M.ok u1.2) (M.ok 3))) fun words_here2 =>
 (M.bind (tB3 g__law_dual (M.ok u1.1) (M.ok u1.2) (M.ok words_here2)) fun dual_here3 =>
 (M.bind (tB2 g__law_numbers_of (M.ok words_here2) (M.ok u1.2)) fun one4 =>
 (M.bind (tB2 g__law_numbers_of (M.ok dual_here3) (M.ok u1.2)) fun two5 =>
 (tIf (tOr (tB2 oNe (tB3 g__law_told (M.ok u1.1) (M.ok u1.2) (tDyn (eT D.int) (M.ok one4))) (tInl Str (M.ok two5))) (tB2 oNe (tB3 g__law_told (M.ok u1.1) (M.ok u1.2) (tDyn (eT D.int) (M.ok two5))) (tInl Str (M.ok one4))))
 ((M.ok false))
 ((M.bind (tB2 g__law_next (M.ok ()) (tB2 oAdd (M.ok u1.2) (M.ok 1))) fun s6 =>
 (tIf (tB2 oNe (tB2 g_binomial_moment (M.ok one4) (M.ok s6)) (tB2 g__law_zero_pairs (M.ok words_here2) (tB2 g__law_places (M.ok u1.2) (M.ok s6))))
 ((M.ok false))
 ((M.bind (M.ok 1) fun power7 =>
 (M.bind (tB1 oRng1 (M.ok s6)) fun l => M.bind (tForS (fun x9 (s8 : Int) =>
 (M.bind (tB2 oMul (M.ok s8) (M.ok u1.1)) fun power10 =>
 (M.ok power10))) l power7) fun s8 =>
 (tIf (tB2 oNe (tB2 oMul (tB2 g_binomial_moment (M.ok one4) (M.ok s6)) (M.ok s8)) (tB2 oMul (tB1 oLen (M.ok words_here2)) (tB2 g_binomial_moment (M.ok two5) (tB2 oSub (M.ok u1.2) (M.ok s6)))))
 ((M.ok false))
 ((M.bind (tB2 g__law_next (M.ok ()) (tB2 oAdd (M.ok u1.2) (M.ok 1))) fun at11 =>
 (M.bind (tB2 oCat (tB2 oCat (tSl oCut (M.ok one4) (M.ok none) (tSome (M.ok at11))) (tDisp [(tB2 oAdd (tB2 oAdd (tB2 oIx (M.ok one4) (M.ok at11)) (M.ok 1)) (tB2 g__law_next (M.ok ()) (M.ok 3)))])) (tSl oCut (M.ok one4) (tSome (tB2 oAdd (M.ok at11) (M.ok 1))) (M.ok none))) fun changed12 =>
 (tIf (tB2 oNe (tB3 g__law_told (M.ok u1.1) (M.ok u1.2) (tDyn (eT D.int) (M.ok changed12))) (tB3 g__law_due (M.ok u1.1) (M.ok u1.2) (M.ok changed12)))
 ((M.ok false))
 ((M.bind (tB1 M.ok (tComp (tB1 oRng1 (tB2 oAdd (M.ok u1.2) (M.ok 1))) fun x14 => (M.ok 0))) fun zeros13 =>
 (M.bind (tDisp [(tDyn (eT D.int) (tB2 oCat (M.ok one4) (tDisp [(M.ok 0)]))), (tDyn (eT D.int) (tSl oCut (M.ok one4) (tSome (M.ok 1)) (M.ok none))), (tDyn (eL D.int) (tB1 M.ok (M.ok one4))), (tDyn eU (M.ok ())), (tDyn (eT D.int) (M.ok zeros13)), (tDyn (eT D.int) (tB2 oCat (tDisp [(tB1 oNeg (M.ok 1))]) (tSl oCut (M.ok one4) (tSome (M.ok 1)) (M.ok none)))), (tDyn (eT id) (tB2 oCat (tDynT D.bl (tDisp [(M.ok true)])) (tDynT D.int (tSl oCut (M.ok one4) (tSome (M.ok 1)) (M.ok none))))), (tDyn (eT id) (tB2 oCat (tDynT eU (tDisp [(M.ok ())])) (tDynT D.int (tSl oCut (M.ok one4) (tSome (M.ok 1)) (M.ok none)))))]) fun l => tAfter (tFor (fun x16 (s15 : Unit) =>
 (tIf (tB2 oNe (tB3 g__law_told (M.ok u1.1) (M.ok u1.2) (M.ok x16)) (tInr (List Int) (M.ok ("malformed" : Str))))
 ((M.bind (M.ok false) fun x => M.ok (TO.ret x)))
 ((M.ok (TO.nx ()))))) l ()) (fun s15 =>
 (M.ok true)) fun (b : Bool) => M.ok b))))))))))))))))))))
theorem s_law {G : Cfg} {i__law_shape i__law_rows i__law_words i__law_dual i__law_numbers_of i__law_told i__law_next i_binomial_moment i__law_places i__law_zero_pairs i__law_due : Nat} {C : Nat → List D → M D} (hC : G.call = C) (h__law_shape : ∀ (a0 : Unit), Sim (eP2 D.int D.int) (C i__law_shape [eR a0]) (g__law_shape a0)) (h__law_rows : ∀ (a0 : Unit), ∀ (a1 : Int), ∀ (a2 : Int), ∀ (a3 : Int), Sim (eL (eT D.int)) (C i__law_rows [eR a0, D.int a1, D.int a2, D.int a3]) (g__law_rows a0 a1 a2 a3)) (h__law_words : ∀ (a0 : Int), ∀ (a1 : Int), ∀ (a2 : (List (List Int))), Sim (eL (eT D.int)) (C i__law_words [D.int a0, D.int a1, (eL (eT D.int)) a2]) (g__law_words a0 a1 a2)) (h__law_dual : ∀ (a0 : Int), ∀ (a1 : Int), ∀ (a2 : (List (List Int))), Sim (eL (eT D.int)) (C i__law_dual [D.int a0, D.int a1, (eL (eT D.int)) a2]) (g__law_dual a0 a1 a2)) (h__law_numbers_of : ∀ (a0 : (List (List Int))), ∀ (a1 : Int), Sim (eT D.int) (C i__law_numbers_of [(eL (eT D.int)) a0, D.int a1]) (g__law_numbers_of a0 a1)) (h__law_told : ∀ (a0 : Int), ∀ (a1 : Int), ∀ (a2 : D), Sim (eW (eT D.int) D.str) (C i__law_told [D.int a0, D.int a1, id a2]) (g__law_told a0 a1 a2)) (h__law_next : ∀ (a0 : Unit), ∀ (a1 : Int), Sim D.int (C i__law_next [eR a0, D.int a1]) (g__law_next a0 a1)) (h_binomial_moment : ∀ (a0 : (List Int)), ∀ (a1 : Int), Sim D.int (C i_binomial_moment [(eT D.int) a0, D.int a1]) (g_binomial_moment a0 a1)) (h__law_places : ∀ (a0 : Int), ∀ (a1 : Int), Sim (eL (eT D.int)) (C i__law_places [D.int a0, D.int a1]) (g__law_places a0 a1)) (h__law_zero_pairs : ∀ (a0 : (List (List Int))), ∀ (a1 : (List (List Int))), Sim D.int (C i__law_zero_pairs [(eL (eT D.int)) a0, (eL (eT D.int)) a1]) (g__law_zero_pairs a0 a1)) (h__law_due : ∀ (a0 : Int), ∀ (a1 : Int), ∀ (a2 : (List Int)), Sim (eW (eT D.int) D.str) (C i__law_due [D.int a0, D.int a1, (eT D.int) a2]) (g__law_due a0 a1 a2)) : SK (RF D.bl) G (b_law i__law_shape i__law_rows i__law_words i__law_dual i__law_numbers_of i__law_told i__law_next i_binomial_moment i__law_places i__law_zero_pairs i__law_due) [] ([none, some (.d .st), none, none, none, none, none, none, none, none, none, none, none, none, none, none] : Mp.Env) (g_law) := by
 subst hC; unfold b_law g_law
 exact (sk_un2 (ev_call1 h__law_shape (ev_slot rfl)) fun u1 => sk_env (ρ' := ([none, some (.d .st), none, none, none, none, none, none, none, none, none, none, none, some (.d (D.int u1.1)), some (.d (D.int u1.2)), none] : Mp.Env)) rfl
 (sk_set (ev_call3 h__law_words (ev_slot rfl) (ev_slot rfl) (ev_call4 h__law_rows (ev_slot rfl) (ev_slot rfl) (ev_slot rfl) ev_int)) fun words_here2 => sk_env (ρ' := ([none, some (.d .st), some (.d ((eL (eT D.int)) words_here2)), none, none, none, none, none, none, none, none, none, none, some (.d (D.int u1.1)), some (.d (D.int u1.2)), none] : Mp.Env)) rfl
 (sk_set (ev_call3 h__law_dual (ev_slot rfl) (ev_slot rfl) (ev_slot rfl)) fun dual_here3 => sk_env (ρ' := ([none, some (.d .st), some (.d ((eL (eT D.int)) words_here2)), some (.d ((eL (eT D.int)) dual_here3)), none, none, none, none, none, none, none, none, none, some (.d (D.int u1.1)), some (.d (D.int u1.2)), none] : Mp.Env)) rfl
 (sk_set (ev_call2 h__law_numbers_of (ev_slot rfl) (ev_slot rfl)) fun one4 => sk_env (ρ' := ([none, some (.d .st), some (.d ((eL (eT D.int)) words_here2)), some (.d ((eL (eT D.int)) dual_here3)), some (.d ((eT D.int) one4)), none, none, none, none, none, none, none, none, some (.d (D.int u1.1)), some (.d (D.int u1.2)), none] : Mp.Env)) rfl
 (sk_set (ev_call2 h__law_numbers_of (ev_slot rfl) (ev_slot rfl)) fun two5 => sk_env (ρ' := ([none, some (.d .st), some (.d ((eL (eT D.int)) words_here2)), some (.d ((eL (eT D.int)) dual_here3)), some (.d ((eT D.int) one4)), some (.d ((eT D.int) two5)), none, none, none, none, none, none, none, some (.d (D.int u1.1)), some (.d (D.int u1.2)), none] : Mp.Env)) rfl
 (sk_if (ev_or (ev_cmp (e1 := (eW (eT D.int) D.str)) (e2 := (eW (eT D.int) D.str)) (c_ne (n := 1) (eq_W (n := 1) (eq_T eq_int) (EqOK.up (m := 1) eq_str (by decide)) nw_TS) (by decide)) (ev_call3 h__law_told (ev_slot rfl) (ev_slot rfl) (ev_dyn (ev_slot rfl))) (ev_inl (ev_slot rfl))) (ev_cmp (e1 := (eW (eT D.int) D.str)) (e2 := (eW (eT D.int) D.str)) (c_ne (n := 1) (eq_W (n := 1) (eq_T eq_int) (EqOK.up (m := 1) eq_str (by decide)) nw_TS) (by decide)) (ev_call3 h__law_told (ev_slot rfl) (ev_slot rfl) (ev_dyn (ev_slot rfl))) (ev_inl (ev_slot rfl))))
 (sk_retF ev_bl)
 (sk_pop (sk_set (ev_call2 h__law_next (ev_slot rfl) (ev_add (ev_slot rfl) ev_int)) fun s6 => sk_env (ρ' := ([none, some (.d .st), some (.d ((eL (eT D.int)) words_here2)), some (.d ((eL (eT D.int)) dual_here3)), some (.d ((eT D.int) one4)), some (.d ((eT D.int) two5)), some (.d (D.int s6)), none, none, none, none, none, none, some (.d (D.int u1.1)), some (.d (D.int u1.2)), none] : Mp.Env)) rfl
 (sk_if (ev_cmp (e1 := D.int) (e2 := D.int) (c_ne (n := 0) eq_int (by decide)) (ev_call2 h_binomial_moment (ev_slot rfl) (ev_slot rfl)) (ev_call2 h__law_zero_pairs (ev_slot rfl) (ev_call2 h__law_places (ev_slot rfl) (ev_slot rfl))))
 (sk_retF ev_bl)
 (sk_pop (sk_set ev_int fun power7 => sk_env (ρ' := ([none, some (.d .st), some (.d ((eL (eT D.int)) words_here2)), some (.d ((eL (eT D.int)) dual_here3)), some (.d ((eT D.int) one4)), some (.d ((eT D.int) two5)), some (.d (D.int s6)), some (.d (D.int power7)), none, none, none, none, none, some (.d (D.int u1.1)), some (.d (D.int u1.2)), none] : Mp.Env)) rfl
 (sk_forS (fun (s8 : Int) ρ => ∃ o8_8 : Option SV, ρ = ([none, some (.d .st), some (.d ((eL (eT D.int)) words_here2)), some (.d ((eL (eT D.int)) dual_here3)), some (.d ((eT D.int) one4)), some (.d ((eT D.int) two5)), some (.d (D.int s6)), some (.d (D.int s8)), o8_8, none, none, none, none, some (.d (D.int u1.1)), some (.d (D.int u1.2)), none] : Mp.Env)) (it_rng1 (ev_slot rfl)) ⟨_, rfl⟩
 (fun x9 s8 ρ h => by
 obtain ⟨o8_8, rfl⟩ := h; exact ⟨_, rfl, sk_env (ρ' := ([none, some (.d .st), some (.d ((eL (eT D.int)) words_here2)), some (.d ((eL (eT D.int)) dual_here3)), some (.d ((eT D.int) one4)), some (.d ((eT D.int) two5)), some (.d (D.int s6)), some (.d (D.int s8)), some (.d (D.int x9)), none, none, none, none, some (.d (D.int u1.1)), some (.d (D.int u1.2)), none] : Mp.Env)) rfl
 (sk_set (ev_mul (ev_slot rfl) (ev_slot rfl)) fun power10 => sk_env (ρ' := ([none, some (.d .st), some (.d ((eL (eT D.int)) words_here2)), some (.d ((eL (eT D.int)) dual_here3)), some (.d ((eT D.int) one4)), some (.d ((eT D.int) two5)), some (.d (D.int s6)), some (.d (D.int power10)), some (.d (D.int x9)), none, none, none, none, some (.d (D.int u1.1)), some (.d (D.int u1.2)), none] : Mp.Env)) rfl
 (sk_endS ⟨_, rfl⟩))⟩)
 (fun s8 ρ h => by
 obtain ⟨o8_8, rfl⟩ := h; exact (sk_if (ev_cmp (e1 := D.int) (e2 := D.int) (c_ne (n := 0) eq_int (by decide)) (ev_mul (ev_call2 h_binomial_moment (ev_slot rfl) (ev_slot rfl)) (ev_slot rfl)) (ev_mul (ev_bi1 f_lenL (ev_slot rfl)) (ev_call2 h_binomial_moment (ev_slot rfl) (ev_sub (ev_slot rfl) (ev_slot rfl)))))
 (sk_retF ev_bl)
 (sk_pop (sk_set (ev_call2 h__law_next (ev_slot rfl) (ev_add (ev_slot rfl) ev_int)) fun at11 => sk_env (ρ' := ([none, some (.d .st), some (.d ((eL (eT D.int)) words_here2)), some (.d ((eL (eT D.int)) dual_here3)), some (.d ((eT D.int) one4)), some (.d ((eT D.int) two5)), some (.d (D.int s6)), some (.d (D.int s8)), o8_8, some (.d (D.int at11)), none, none, none, some (.d (D.int u1.1)), some (.d (D.int u1.2)), none] : Mp.Env)) rfl
 (sk_set (ev_catT (ev_catT (ev_sl f_slT (ev_slot rfl) evb_abs (evb_some rfl (ev_slot rfl))) (ev_tupH (evs_cons (ev_add (ev_add (ev_ixT (ev_slot rfl) (ev_slot rfl)) ev_int) (ev_call2 h__law_next (ev_slot rfl) ev_int)) evs_nil))) (ev_sl f_slT (ev_slot rfl) (evb_some rfl (ev_add (ev_slot rfl) ev_int)) evb_abs)) fun changed12 => sk_env (ρ' := ([none, some (.d .st), some (.d ((eL (eT D.int)) words_here2)), some (.d ((eL (eT D.int)) dual_here3)), some (.d ((eT D.int) one4)), some (.d ((eT D.int) two5)), some (.d (D.int s6)), some (.d (D.int s8)), o8_8, some (.d (D.int at11)), some (.d ((eT D.int) changed12)), none, none, some (.d (D.int u1.1)), some (.d (D.int u1.2)), none] : Mp.Env)) rfl
 (sk_if (ev_cmp (e1 := (eW (eT D.int) D.str)) (e2 := (eW (eT D.int) D.str)) (c_ne (n := 1) (eq_W (n := 1) (eq_T eq_int) (EqOK.up (m := 1) eq_str (by decide)) nw_TS) (by decide)) (ev_call3 h__law_told (ev_slot rfl) (ev_slot rfl) (ev_dyn (ev_slot rfl))) (ev_call3 h__law_due (ev_slot rfl) (ev_slot rfl) (ev_slot rfl)))
 (sk_retF ev_bl)
 (sk_pop (sk_set (ev_bi1 f_tupL (ev_comp (it_rng1 (ev_add (ev_slot rfl) ev_int)) fun x14 => ⟨_, rfl, ev_int⟩)) fun zeros13 => sk_env (ρ' := ([none, some (.d .st), some (.d ((eL (eT D.int)) words_here2)), some (.d ((eL (eT D.int)) dual_here3)), some (.d ((eT D.int) one4)), some (.d ((eT D.int) two5)), some (.d (D.int s6)), some (.d (D.int s8)), o8_8, some (.d (D.int at11)), some (.d ((eT D.int) changed12)), some (.d ((eT D.int) zeros13)), none, some (.d (D.int u1.1)), some (.d (D.int u1.2)), none] : Mp.Env)) rfl
 (sk_for (enc := D.bl) (fun (s15 : Unit) ρ => ∃ o15_12 : Option SV, ρ = ([none, some (.d .st), some (.d ((eL (eT D.int)) words_here2)), some (.d ((eL (eT D.int)) dual_here3)), some (.d ((eT D.int) one4)), some (.d ((eT D.int) two5)), some (.d (D.int s6)), some (.d (D.int s8)), o8_8, some (.d (D.int at11)), some (.d ((eT D.int) changed12)), some (.d ((eT D.int) zeros13)), o15_12, some (.d (D.int u1.1)), some (.d (D.int u1.2)), none] : Mp.Env)) (it_L (ev_lst (evs_cons (ev_dyn (ev_catT (ev_slot rfl) (ev_tupH (evs_cons ev_int evs_nil)))) (evs_cons (ev_dyn (ev_sl f_slT (ev_slot rfl) (evb_some rfl ev_int) evb_abs)) (evs_cons (ev_dyn (ev_bi1 f_lstT (ev_slot rfl))) (evs_cons (ev_dyn ev_nonU) (evs_cons (ev_dyn (ev_slot rfl)) (evs_cons (ev_dyn (ev_catT (ev_tupH (evs_cons (ev_neg ev_int) evs_nil)) (ev_sl f_slT (ev_slot rfl) (evb_some rfl ev_int) evb_abs))) (evs_cons (ev_dyn (ev_catT (ev_dynT (ev_tupH (evs_cons ev_bl evs_nil))) (ev_dynT (ev_sl f_slT (ev_slot rfl) (evb_some rfl ev_int) evb_abs)))) (evs_cons (ev_dyn (ev_catT (ev_dynT (ev_tupH (evs_cons ev_nonU evs_nil))) (ev_dynT (ev_sl f_slT (ev_slot rfl) (evb_some rfl ev_int) evb_abs)))) evs_nil)))))))))) ⟨_, rfl⟩
 (fun x16 s15 ρ h => by
 obtain ⟨o15_12, rfl⟩ := h; exact ⟨_, rfl, sk_env (ρ' := ([none, some (.d .st), some (.d ((eL (eT D.int)) words_here2)), some (.d ((eL (eT D.int)) dual_here3)), some (.d ((eT D.int) one4)), some (.d ((eT D.int) two5)), some (.d (D.int s6)), some (.d (D.int s8)), o8_8, some (.d (D.int at11)), some (.d ((eT D.int) changed12)), some (.d ((eT D.int) zeros13)), some (.d (id x16)), some (.d (D.int u1.1)), some (.d (D.int u1.2)), none] : Mp.Env)) rfl
 (sk_if (ev_cmp (e1 := (eW (eT D.int) D.str)) (e2 := (eW (eT D.int) D.str)) (c_ne (n := 1) (eq_W (n := 1) (eq_T eq_int) (EqOK.up (m := 1) eq_str (by decide)) nw_TS) (by decide)) (ev_call3 h__law_told (ev_slot rfl) (ev_slot rfl) (ev_slot rfl)) (ev_inr ev_str))
 (sk_ret ev_bl (fun _ => rfl))
 (sk_pop (sk_endL ⟨_, rfl⟩)))⟩)
 (fun _ => rfl)
 (fun s15 ρ h => by
 obtain ⟨o15_12, rfl⟩ := h; exact (sk_retF ev_bl)))))))))))))))))))))))
def T : Tab := ⟨[⟨"is_integer", 1, 1, b_is_integer, 0, 0, .nil⟩, ⟨"binomial", 2, 4, b_binomial, 0, 0, .nil⟩, ⟨"krawtchouk", 4, 8, b_krawtchouk 1, 0, 0, .nil⟩, ⟨"is_numbers", 2, 3, b_is_numbers 0, 0, 0, .nil⟩, ⟨"macwilliams", 3, 8, b_macwilliams 3 2, 0, 0, .nil⟩, ⟨"binomial_moment", 2, 4, b_binomial_moment 1, 0, 0, .nil⟩, ⟨"_law_numbers", 1, 7, b__law_numbers, 0, 0, .nil⟩, ⟨"_law_next", 2, 2, b__law_next, 0, 0, .nil⟩, ⟨"_law_rows", 4, 7, b__law_rows 7, 0, 0, .nil⟩, ⟨"_law_words", 3, 9, b__law_words, 0, 0, .nil⟩, ⟨"_law_weight", 1, 2, b__law_weight, 0, 0, .nil⟩, ⟨"_law_all", 2, 7, b__law_all, 0, 0, .nil⟩, ⟨"_law_numbers_of", 2, 5, b__law_numbers_of 10, 0, 0, .nil⟩, ⟨"_law_shape", 1, 3, b__law_shape 7, 0, 0, .nil⟩, ⟨"_law_dual", 3, 7, b__law_dual 11, 0, 0, .nil⟩, ⟨"_law_places", 2, 5, b__law_places, 0, 0, .nil⟩, ⟨"_law_zero_pairs", 2, 6, b__law_zero_pairs, 0, 0, .nil⟩, ⟨"_law_told", 3, 4, b__law_told 4, 0, 0, .nil⟩, ⟨"_law_turning", 2, 11, b__law_turning 11 10, 0, 0, .nil⟩, ⟨"_law_due", 3, 8, b__law_due 18, 0, 0, .nil⟩], [], [], [1, 2]⟩
theorem t_is_integer {k : Nat} (a0 : D) : Sim D.bl (callK T 0 (fun _ => none) (k + 1) 0 [id a0]) (g_is_integer a0) :=
  sim_call (k := k + 0) rfl (by decide) (by decide) rfl rfl (s_is_integer (G := cfgOf T 0 (k + 0)) a0)
theorem t_binomial {k : Nat} (a0 : Int) (a1 : Int) : Sim D.int (callK T 0 (fun _ => none) (k + 1) 1 [D.int a0, D.int a1]) (g_binomial a0 a1) :=
  sim_call (k := k + 0) rfl (by decide) (by decide) rfl rfl (s_binomial (G := cfgOf T 0 (k + 0)) a0 a1)
theorem t_krawtchouk {k : Nat} (a0 : Int) (a1 : Int) (a2 : Int) (a3 : Int) : Sim D.int (callK T 0 (fun _ => none) (k + 2) 2 [D.int a0, D.int a1, D.int a2, D.int a3]) (g_krawtchouk a0 a1 a2 a3) :=
  sim_call (k := k + 1) rfl (by decide) (by decide) rfl rfl (s_krawtchouk (G := cfgOf T 0 (k + 1)) (C := callK T 0 (fun _ => none) (k + 1)) (i_binomial := 1) rfl (fun b0 b1 => t_binomial (k := k + 0) b0 b1) a0 a1 a2 a3)
theorem t_is_numbers {k : Nat} (a0 : Int) (a1 : D) : Sim D.bl (callK T 0 (fun _ => none) (k + 2) 3 [D.int a0, id a1]) (g_is_numbers a0 a1) :=
  sim_call (k := k + 1) rfl (by decide) (by decide) rfl rfl (s_is_numbers (G := cfgOf T 0 (k + 1)) (C := callK T 0 (fun _ => none) (k + 1)) (i_is_integer := 0) rfl (fun b0 => t_is_integer (k := k + 0) b0) a0 a1)
theorem t_macwilliams {k : Nat} (a0 : Int) (a1 : Int) (a2 : D) : Sim (eT D.int) (callK T 0 (fun _ => none) (k + 3) 4 [D.int a0, D.int a1, id a2]) (g_macwilliams a0 a1 a2) :=
  sim_call (k := k + 2) rfl (by decide) (by decide) rfl rfl (s_macwilliams (G := cfgOf T 0 (k + 2)) (C := callK T 0 (fun _ => none) (k + 2)) (i_is_numbers := 3) (i_krawtchouk := 2) rfl (fun b0 b1 => t_is_numbers (k := k + 0) b0 b1) (fun b0 b1 b2 b3 => t_krawtchouk (k := k + 0) b0 b1 b2 b3) a0 a1 a2)
theorem t_binomial_moment {k : Nat} (a0 : (List Int)) (a1 : Int) : Sim D.int (callK T 0 (fun _ => none) (k + 2) 5 [(eT D.int) a0, D.int a1]) (g_binomial_moment a0 a1) :=
  sim_call (k := k + 1) rfl (by decide) (by decide) rfl rfl (s_binomial_moment (G := cfgOf T 0 (k + 1)) (C := callK T 0 (fun _ => none) (k + 1)) (i_binomial := 1) rfl (fun b0 b1 => t_binomial (k := k + 0) b0 b1) a0 a1)
theorem t__law_numbers {k : Nat} (a0 : (List Int)) : Sim (eL D.int) (callK T 0 (fun _ => none) (k + 1) 6 [(eC D.int) a0]) (g__law_numbers a0) :=
  sim_call (k := k + 0) rfl (by decide) (by decide) rfl rfl (s__law_numbers (G := cfgOf T 0 (k + 0)) a0)
theorem t__law_next {k : Nat} (a0 : Unit) (a1 : Int) : Sim D.int (callK T 0 (fun _ => none) (k + 1) 7 [eR a0, D.int a1]) (g__law_next a0 a1) :=
  sim_call (k := k + 0) rfl (by decide) (by decide) rfl rfl (s__law_next (G := cfgOf T 0 (k + 0)) a0 a1)
theorem t__law_rows {k : Nat} (a0 : Unit) (a1 : Int) (a2 : Int) (a3 : Int) : Sim (eL (eT D.int)) (callK T 0 (fun _ => none) (k + 2) 8 [eR a0, D.int a1, D.int a2, D.int a3]) (g__law_rows a0 a1 a2 a3) :=
  sim_call (k := k + 1) rfl (by decide) (by decide) rfl rfl (s__law_rows (G := cfgOf T 0 (k + 1)) (C := callK T 0 (fun _ => none) (k + 1)) (i__law_next := 7) rfl (fun b0 b1 => t__law_next (k := k + 0) b0 b1) a0 a1 a2 a3)
theorem t__law_words {k : Nat} (a0 : Int) (a1 : Int) (a2 : (List (List Int))) : Sim (eL (eT D.int)) (callK T 0 (fun _ => none) (k + 1) 9 [D.int a0, D.int a1, (eL (eT D.int)) a2]) (g__law_words a0 a1 a2) :=
  sim_call (k := k + 0) rfl (by decide) (by decide) rfl rfl (s__law_words (G := cfgOf T 0 (k + 0)) a0 a1 a2)
theorem t__law_weight {k : Nat} (a0 : (List Int)) : Sim D.int (callK T 0 (fun _ => none) (k + 1) 10 [(eT D.int) a0]) (g__law_weight a0) :=
  sim_call (k := k + 0) rfl (by decide) (by decide) rfl rfl (s__law_weight (G := cfgOf T 0 (k + 0)) a0)
theorem t__law_all {k : Nat} (a0 : Int) (a1 : Int) : Sim (eL (eT D.int)) (callK T 0 (fun _ => none) (k + 1) 11 [D.int a0, D.int a1]) (g__law_all a0 a1) :=
  sim_call (k := k + 0) rfl (by decide) (by decide) rfl rfl (s__law_all (G := cfgOf T 0 (k + 0)) a0 a1)
theorem t__law_numbers_of {k : Nat} (a0 : (List (List Int))) (a1 : Int) : Sim (eT D.int) (callK T 0 (fun _ => none) (k + 2) 12 [(eL (eT D.int)) a0, D.int a1]) (g__law_numbers_of a0 a1) :=
  sim_call (k := k + 1) rfl (by decide) (by decide) rfl rfl (s__law_numbers_of (G := cfgOf T 0 (k + 1)) (C := callK T 0 (fun _ => none) (k + 1)) (i__law_weight := 10) rfl (fun b0 => t__law_weight (k := k + 0) b0) a0 a1)
theorem t__law_shape {k : Nat} (a0 : Unit) : Sim (eP2 D.int D.int) (callK T 0 (fun _ => none) (k + 2) 13 [eR a0]) (g__law_shape a0) :=
  sim_call (k := k + 1) rfl (by decide) (by decide) rfl rfl (s__law_shape (G := cfgOf T 0 (k + 1)) (C := callK T 0 (fun _ => none) (k + 1)) (i__law_next := 7) rfl (fun b0 b1 => t__law_next (k := k + 0) b0 b1) a0)
theorem t__law_dual {k : Nat} (a0 : Int) (a1 : Int) (a2 : (List (List Int))) : Sim (eL (eT D.int)) (callK T 0 (fun _ => none) (k + 2) 14 [D.int a0, D.int a1, (eL (eT D.int)) a2]) (g__law_dual a0 a1 a2) :=
  sim_call (k := k + 1) rfl (by decide) (by decide) rfl rfl (s__law_dual (G := cfgOf T 0 (k + 1)) (C := callK T 0 (fun _ => none) (k + 1)) (i__law_all := 11) rfl (fun b0 b1 => t__law_all (k := k + 0) b0 b1) a0 a1 a2)
theorem t__law_places {k : Nat} (a0 : Int) (a1 : Int) : Sim (eL (eT D.int)) (callK T 0 (fun _ => none) (k + 1) 15 [D.int a0, D.int a1]) (g__law_places a0 a1) :=
  sim_call (k := k + 0) rfl (by decide) (by decide) rfl rfl (s__law_places (G := cfgOf T 0 (k + 0)) a0 a1)
theorem t__law_zero_pairs {k : Nat} (a0 : (List (List Int))) (a1 : (List (List Int))) : Sim D.int (callK T 0 (fun _ => none) (k + 1) 16 [(eL (eT D.int)) a0, (eL (eT D.int)) a1]) (g__law_zero_pairs a0 a1) :=
  sim_call (k := k + 0) rfl (by decide) (by decide) rfl rfl (s__law_zero_pairs (G := cfgOf T 0 (k + 0)) a0 a1)
theorem t__law_told {k : Nat} (a0 : Int) (a1 : Int) (a2 : D) : Sim (eW (eT D.int) D.str) (callK T 0 (fun _ => none) (k + 4) 17 [D.int a0, D.int a1, id a2]) (g__law_told a0 a1 a2) :=
  sim_call (k := k + 3) rfl (by decide) (by decide) rfl rfl (s__law_told (G := cfgOf T 0 (k + 3)) (C := callK T 0 (fun _ => none) (k + 3)) (i_macwilliams := 4) rfl (fun b0 b1 b2 => t_macwilliams (k := k + 0) b0 b1 b2) a0 a1 a2)
theorem t__law_turning {k : Nat} (a0 : Int) (a1 : Int) : Sim (eL (eL D.int)) (callK T 0 (fun _ => none) (k + 2) 18 [D.int a0, D.int a1]) (g__law_turning a0 a1) :=
  sim_call (k := k + 1) rfl (by decide) (by decide) rfl rfl (s__law_turning (G := cfgOf T 0 (k + 1)) (C := callK T 0 (fun _ => none) (k + 1)) (i__law_all := 11) (i__law_weight := 10) rfl (fun b0 b1 => t__law_all (k := k + 0) b0 b1) (fun b0 => t__law_weight (k := k + 0) b0) a0 a1)
theorem t__law_due {k : Nat} (a0 : Int) (a1 : Int) (a2 : (List Int)) : Sim (eW (eT D.int) D.str) (callK T 0 (fun _ => none) (k + 3) 19 [D.int a0, D.int a1, (eT D.int) a2]) (g__law_due a0 a1 a2) :=
  sim_call (k := k + 2) rfl (by decide) (by decide) rfl rfl (s__law_due (G := cfgOf T 0 (k + 2)) (C := callK T 0 (fun _ => none) (k + 2)) (i__law_turning := 18) rfl (fun b0 b1 => t__law_turning (k := k + 0) b0 b1) a0 a1 a2)
def PureLaw : Prop := ∀ ns : List Int, ns.length ≤ 63 → ∃ ls rs', callK T 0 (fun _ => none) 4 6 [.scr (dI ns)] none = .ok (.lst (dI ls)) none ∧ execSs (cfgOf T 0 4) (b_law 13 8 9 14 12 17 7 5 15 16 19) ((List.replicate 16 none).set 1 (some (.d .st))) (some (dI ls)) = .ok (.ret (.bl true)) rs'
theorem pure_of (H : ∀ ns : List Int, ns.length ≤ 63 → ∃ ls rs', g__law_numbers ns none = .ok ls none ∧ g_law (some (dI ls)) = .ok true rs') : PureLaw := fun ns hn => by
  obtain ⟨ls, rs', h1, h2⟩ := H ns hn
  exact ⟨ls, rs', (t__law_numbers (k := 3) ns).run h1, law_run (s_law (G := cfgOf T 0 4) (i__law_shape := 13) (i__law_rows := 8) (i__law_words := 9) (i__law_dual := 14) (i__law_numbers_of := 12) (i__law_told := 17) (i__law_next := 7) (i_binomial_moment := 5) (i__law_places := 15) (i__law_zero_pairs := 16) (i__law_due := 19) (C := callK T 0 (fun _ => none) 4) rfl (fun b0 => t__law_shape (k := 2) b0) (fun b0 b1 b2 b3 => t__law_rows (k := 2) b0 b1 b2 b3) (fun b0 b1 b2 => t__law_words (k := 3) b0 b1 b2) (fun b0 b1 b2 => t__law_dual (k := 2) b0 b1 b2) (fun b0 b1 => t__law_numbers_of (k := 2) b0 b1) (fun b0 b1 b2 => t__law_told (k := 0) b0 b1 b2) (fun b0 b1 => t__law_next (k := 3) b0 b1) (fun b0 b1 => t_binomial_moment (k := 2) b0 b1) (fun b0 b1 => t__law_places (k := 3) b0 b1) (fun b0 b1 => t__law_zero_pairs (k := 3) b0 b1) (fun b0 b1 b2 => t__law_due (k := 1) b0 b1 b2)) h2⟩
end Law

set_option Elab.async false
set_option linter.all false
set_option maxRecDepth 100000
set_option maxHeartbeats 4000000
namespace Law
open PySem Mp
/-- a register of ints -/
def RgI (rs : Rg) : Prop := ∃ l : List Int, rs = some (dI l)
theorem app_ok {α : Type} {l : List α} {v : α} (h : l.length < lim) : oApp l v = M.ok (l ++ [v]) := by unfold oApp; rw [if_pos h]
theorem next_ok {m : Int} (hm : 0 < m) {rs : Rg} (hr : RgI rs) : ∃ v rs', g__law_next () m rs = .ok v rs' ∧ RgI rs' ∧ 0 ≤ v ∧ v < m := by
  obtain ⟨l, rfl⟩ := hr
  unfold g__law_next
  cases l with
  | nil => exact ⟨0, some (dI []), rfl, ⟨[], rfl⟩, Int.le_refl _, hm⟩
  | cons a l =>
    refine ⟨a.fmod m, some (dI l), ?_, ⟨l, rfl⟩, Int.fmod_nonneg_of_pos a hm, Int.fmod_lt_of_pos a hm⟩
    have e : tB2 oEq rLen (M.ok 0) (some (dI (a :: l))) = .ok false (some (dI (a :: l))) := by
      show Res.ok (decide (((dI (a :: l)).length : Int) = 0)) _ = _
      rw [decide_eq_false]
      rw [dI_len, List.length_cons]; omega
    rw [run_if e, if_neg (by simp)]
    have e2 : (M.bind rHas fun _ => M.bind (M.ok 0) rPop) (some (dI (a :: l))) = .ok a (some (dI l)) := by
      show rPop 0 (some (dI (a :: l))) = _
      unfold rPop
      have : seqIndex? 0 (dI (a :: l)).length = some 0 := by
        rw [dI_len, List.length_cons]
        simp [seqIndex?]
      dsimp only
      rw [this]
      rfl
    show M.bind _ _ _ = _
    rw [run_bind e2]
    show M.bind (M.ok m) _ _ = _
    rw [nf_bind, nf_mod (by omega)]
    rfl
theorem numbers_ok (ns : List Int) (hl : ns.length ≤ 63) : ∃ ls, g__law_numbers ns none = .ok ls none := by
  suffices h : ∃ ls, g__law_numbers ns = M.ok ls by
    obtain ⟨ls, h⟩ := h
    exact ⟨ls, by rw [h]; rfl⟩
  unfold g__law_numbers
  have h1 : (if (63 : Int) < ns.length then (63 : Int) else ns.length) = ns.length := if_neg (by omega)
  rw [nf_d0, nf_bind, nf_B1, nf_len, nf_B2, nf_min2, h1, nf_B1, nf_rng1 (by omega), nf_bind]
  refine forR_bind (Q := fun m => ∃ ls, m = M.ok ls) (fun i (s : List Int) => s.length ≤ 60 * i) (by simp) (fun i s hi hs => ?_) (fun s hs => ⟨s, rfl⟩)
  have hx := nf_ix (List.getElem?_eq_getElem (l := ns) hi)
  rw [nf_B2, hx, nf_B1, nf_abs, nf_bind]
  generalize (if ns[i] < 0 then -ns[i] else ns[i]) = c
  have hp : oPow 10 18 = M.ok (10 ^ 18) := by unfold oPow; rw [if_pos (by decide)]; rfl
  rw [nf_B2 10 18, hp, nf_B2, nf_ge, nf_if]
  by_cases hc : (10 : Int) ^ 18 ≤ c
  · rw [decide_eq_true hc, if_pos rfl, nf_B1, show (60 : Int) = ((60 : Nat) : Int) from rfl, nf_rng1 (by omega), nf_bind]
    refine forR_bind (Q := fun m => ∃ s' : List Int, m = M.ok s' ∧ s'.length ≤ 60 * (i + 1)) (fun k (s : List Int × Int) => s.1.length ≤ 60 * i + k) (s := (s, c)) (by simpa using hs) (fun k s hk hs => ?_) (fun s hs => ⟨_, rfl, by omega⟩)
    rw [nf_B2, nf_gt, nf_if]
    by_cases h0 : 0 < s.2
    · rw [decide_eq_true h0, if_pos rfl, nf_B2, nf_mod (by decide), nf_bind, app_ok (by unfold lim; omega), nf_bind, nf_B2, nf_div (by decide) (by decide), nf_bind]
      exact ⟨_, rfl, by simp; omega⟩
    · rw [decide_eq_false h0, if_neg (by simp)]
      exact ⟨_, rfl, by simp; omega⟩
  · rw [decide_eq_false hc, if_neg (by simp), nf_B1, show (5 : Int) = ((5 : Nat) : Int) from rfl, nf_rng1 (by omega), nf_bind]
    refine forR_bind (Q := fun m => ∃ s' : List Int, m = M.ok s' ∧ s'.length ≤ 60 * (i + 1)) (fun k (s : List Int × Int) => s.1.length ≤ 60 * i + k) (s := (s, c)) (by simpa using hs) (fun k s hk hs => ?_) (fun s hs => ⟨_, rfl, by omega⟩)
    simp only [nf_B2, nf_add, nf_mul (x := s.2) (y := 48271) (.inr rfl), nf_mul (x := 69621) (.inl rfl), nf_mod (y := 2147483647) (by decide), nf_bind]
    generalize (s.2 * 48271 + 69621 * ((k : Int) + (i : Int)) + 11).fmod 2147483647 = d
    simp only [nf_B2, nf_add, nf_mul (x := d) (y := 16807) (.inr rfl), nf_div (y := 65536) (by decide) (by decide), nf_mod (y := 2147483629) (by decide), nf_mod (y := 1009) (by decide), nf_bind, app_ok (l := s.1) (by unfold lim; omega)]
    exact ⟨_, rfl, by simp; omega⟩
def shapes : List (Int × Nat) := [(2, 0), (2, 1), (2, 2), (2, 3), (2, 4), (2, 5), (3, 0), (3, 1), (3, 2), (3, 3), (3, 4), (5, 0), (5, 1), (5, 2), (5, 3)]
theorem shape_ok {rs : Rg} (hr : RgI rs) : ∃ s ∈ shapes, ∃ rs', g__law_shape () rs = .ok (s.1, (s.2 : Int)) rs' ∧ RgI rs' := by
  obtain ⟨v, r1, e1, h1, g1, g2⟩ := next_ok (m := 4) (by decide) hr
  obtain ⟨v1, r2, e2, h2, g3, g4⟩ := next_ok (m := 6) (by decide) h1
  obtain ⟨v2, r3, e3, h3, g5, g6⟩ := next_ok (m := 5) (by decide) h2
  obtain ⟨v3, r4, e4, h4, g7, g8⟩ := next_ok (m := 4) (by decide) h3
  unfold g__law_shape
  have f1 : tB2 g__law_next (M.ok ()) (M.ok 4) rs = .ok v r1 := e1
  have f2 : tB2 g__law_next (M.ok ()) (M.ok 6) r1 = .ok v1 r2 := e2
  have f3 : tB2 g__law_next (M.ok ()) (M.ok 5) r2 = .ok v2 r3 := e3
  have f4 : tB2 g__law_next (M.ok ()) (M.ok 4) r3 = .ok v3 r4 := e4
  have fl : tDisp [tB2 g__law_next (M.ok ()) (M.ok 6), tB2 g__law_next (M.ok ()) (M.ok 5), tB2 g__law_next (M.ok ()) (M.ok 4)] r1 = .ok [v1, v2, v3] r4 := by
    first
      | (unfold tDisp
         refine (run_bind (a := [v1, v2, v3]) (rs1 := r4) ?_).trans ?_
         · unfold tListOf
           rw [run_bind f2]
           unfold tListOf
           rw [bind_assoc, run_bind f3]
           unfold tListOf
           rw [bind_assoc, bind_assoc, run_bind f4]; rfl
         · rfl)
      | (unfold tDisp tListOf tListOf tListOf tListOf
         rw [run_bind f2, run_bind (run_bind f3 |>.trans (run_bind (run_bind f4 |>.trans rfl) |>.trans rfl))]; rfl)
  have n1 : ∃ m : Nat, v1 = m ∧ m < 6 := ⟨v1.toNat, by omega, by omega⟩
  have n2 : ∃ m : Nat, v2 = m ∧ m < 5 := ⟨v2.toNat, by omega, by omega⟩
  have n3 : ∃ m : Nat, v3 = m ∧ m < 4 := ⟨v3.toNat, by omega, by omega⟩
  obtain ⟨m1, q1, z1⟩ := n1
  obtain ⟨m2, q2, z2⟩ := n2
  obtain ⟨m3, q3, z3⟩ := n3
  have two : ∀ m : Nat, m < 6 → ((2 : Int), m) ∈ shapes := by decide
  have three : ∀ m : Nat, m < 5 → ((3 : Int), m) ∈ shapes := by decide
  have five : ∀ m : Nat, m < 4 → ((5 : Int), m) ∈ shapes := by decide
  have go : ∀ (p n : Int), oIx [(2 : Int), 2, 3, 5] v = M.ok p → oIx [v1, v2, v3] ((if decide (2 < p) then 1 else 0) + if decide (3 < p) then 1 else 0) = M.ok n →
      (M.bind (tB2 oIx (tDisp [(M.ok 2), (M.ok 2), (M.ok 3), (M.ok 5)]) (tB2 g__law_next (M.ok ()) (M.ok 4))) fun p1 =>
 (M.bind (tB2 oIx (tDisp [(tB2 g__law_next (M.ok ()) (M.ok 6)), (tB2 g__law_next (M.ok ()) (M.ok 5)), (tB2 g__law_next (M.ok ()) (M.ok 4))]) (tB2 oAdd (tB1 oB2i (tB2 oGt (M.ok p1) (M.ok 2))) (tB1 oB2i (tB2 oGt (M.ok p1) (M.ok 3))))) fun n2 =>
 (tB2 (fun x y => M.ok (x, y)) (M.ok p1) (M.ok n2)))) rs = .ok (p, n) r4 := fun p n i1 i2 => by
    have s1 : tB2 oIx (tDisp [(M.ok (2 : Int)), (M.ok 2), (M.ok 3), (M.ok 5)]) (tB2 g__law_next (M.ok ()) (M.ok 4)) rs = .ok p r1 := by
      rw [nf_d4]
      refine (bind_ok' (m := M.ok _) rfl).trans ((bind_ok' f1).trans ?_)
      rw [i1]; rfl
    have s2 : tB2 oIx (tDisp [(tB2 g__law_next (M.ok ()) (M.ok 6)), (tB2 g__law_next (M.ok ()) (M.ok 5)), (tB2 g__law_next (M.ok ()) (M.ok 4))]) (tB2 oAdd (tB1 oB2i (tB2 oGt (M.ok p) (M.ok 2))) (tB1 oB2i (tB2 oGt (M.ok p) (M.ok 3)))) r1 = .ok n r4 := by
      simp only [nf_B2, nf_gt, nf_B1, nf_b2i, nf_add]
      refine (bind_ok' fl).trans ?_
      rw [nf_bind, i2]; rfl
    rw [run_bind s1, run_bind s2]; rfl
  have hv : v = 0 ∨ v = 1 ∨ v = 2 ∨ v = 3 := by omega
  rcases hv with rfl | rfl | rfl | rfl
  · exact ⟨(2, m1), two m1 z1, r4, go 2 v1 rfl rfl ▸ (by rw [q1]), h4⟩
  · exact ⟨(2, m1), two m1 z1, r4, go 2 v1 rfl rfl ▸ (by rw [q1]), h4⟩
  · exact ⟨(3, m2), three m2 z2, r4, go 3 v2 rfl rfl ▸ (by rw [q2]), h4⟩
  · exact ⟨(5, m3), five m3 z3, r4, go 5 v3 rfl rfl ▸ (by rw [q3]), h4⟩
theorem shape_p {s : Int × Nat} (hs : s ∈ shapes) : s.1 ∈ primes ∧ s.2 ≤ 5 := by
  simp only [shapes, List.mem_cons, List.not_mem_nil, or_false] at hs
  rcases hs with rfl | rfl | rfl | rfl | rfl | rfl | rfl | rfl | rfl | rfl | rfl | rfl | rfl | rfl | rfl <;> simp [primes]
theorem rows_ok {p : Int} {n : Nat} (hp : 0 < p) (hn : n ≤ 1000) {m : Nat} (hm : m ≤ 100) {rs : Rg} (hr : RgI rs) : ∃ R rs', g__law_rows () p (n : Int) (m : Int) rs = .ok R rs' ∧ RgI rs' ∧ Rows p n R ∧ R.length ≤ m := by
  unfold g__law_rows
  obtain ⟨v, r1, e1, h1, g1, g2⟩ := next_ok (m := (m : Int) + 1) (by omega) hr
  obtain ⟨k, rfl⟩ : ∃ k : Nat, v = (k : Int) := ⟨v.toNat, by omega⟩
  have f1 : tB1 oRng1 (tB2 g__law_next (M.ok ()) (tB2 oAdd (M.ok (m : Int)) (M.ok 1))) rs = .ok ((List.range k).map fun (k : Nat) => (k : Int)) r1 := by
    rw [nf_B2, nf_add]
    refine (bind_ok' (m := tB2 g__law_next (M.ok ()) (M.ok ((m : Int) + 1))) e1).trans ?_
    rw [nf_rng1 (by omega)]; rfl
  rw [nf_d0, nf_bind, run_bind f1]
  obtain ⟨s', rs', a1, a2, a3⟩ := run_forS (f := fun x3 (s2 : (List (List Int))) =>
 (M.bind (M.bind (tB1 M.ok (tComp (tB1 oRng1 (M.ok (n : Int))) fun x5 => (tB2 g__law_next (M.ok ()) (M.ok p)))) (oApp s2)) fun rows_here4 =>
 (M.ok rows_here4))) (P := RgI) (fun i (s : List (List Int)) => Rows p n s ∧ s.length ≤ i) (l := (List.range k).map fun (k : Nat) => (k : Int)) (s := []) (rs := r1) 0 h1 ⟨fun _ z => (by cases z), Nat.le_refl _⟩ (fun j a s rs hj hr hI => by
    obtain ⟨x, rs2, b1, b2, b3, b4⟩ := run_comp (f := fun _ : Int => tB2 g__law_next (M.ok ()) (M.ok p)) (m := tB1 oRng1 (M.ok (n : Int))) (l := (List.range n).map fun (k : Nat) => (k : Int)) (P := RgI) (R := fun _ v => 0 ≤ v ∧ v < p) (by rw [nf_B1, nf_rng1 (by omega)]; rfl) (by simp; unfold lim; omega) hr fun a _ rs hr => by
      obtain ⟨v, rs', e, r1, r2, r3⟩ := next_ok hp hr
      exact ⟨v, rs', e, r1, r2, r3⟩
    have hx : Vec p n x := by
      refine ⟨by simpa using b3, fun z hz => ?_⟩
      obtain ⟨i, hi⟩ := List.mem_iff_getElem?.mp hz
      have hl : i < x.length := (List.getElem?_eq_some_iff.mp hi).1
      rw [b3] at hl
      exact b4 i _ z (List.getElem?_eq_getElem hl) hi
    refine ⟨s ++ [x], rs2, ?_, b2, fun r hr => ?_, by have := hI.2; simp; omega⟩
    · have : j < k := (rng_get hj).1
      rw [bind_okr]
      refine (bind_ok' (m := tB1 M.ok _) ((bind_ok' b1).trans rfl)).trans ?_
      rw [app_ok (by have := hI.2; unfold lim; omega)]; rfl
    · rcases List.mem_append.mp hr with q | q
      · exact hI.1 r q
      · rw [List.mem_singleton.mp q]; exact hx)
  refine ⟨s', rs', ?_, a2, a3.1, ?_⟩
  · rw [run_bind a1]; rfl
  · have := a3.2; simp at this; omega
end Law

set_option Elab.async false
set_option linter.all false
set_option maxRecDepth 100000
set_option maxHeartbeats 4000000
namespace Law
open PySem Mp
theorem fm {a p : Int} (hp : 0 < p) : a.fmod p = a % p := Int.fmod_eq_emod_of_nonneg a (by omega)
theorem cd_get {x : List Int} {k : Nat} (h : k < x.length) : x[k]? = some (cd x k) := by unfold cd; rw [List.getElem?_eq_getElem h]; simp [List.getElem?_eq_getElem h]
theorem cd_range {f : Nat → Int} {n k : Nat} (h : k < n) : cd ((List.range n).map f) k = f k := by unfold cd; simp [h]
theorem range_cd {v : List Int} {n : Nat} (h : v.length = n) : (List.range n).map (cd v) = v := by
  subst h
  apply List.ext_getElem
  · simp
  · intro i h1 h2
    simp [cd, h2]
theorem ixN_of {n j : Nat} (h : j < n) : L2.ixN n (j : Int) = some j := by
  unfold L2.ixN
  simp
  omega
def wtN (x : List Int) : Nat := (x.filter fun a => !decide (a = 0)).length
theorem wtN_le (x : List Int) : wtN x ≤ x.length := List.length_filter_le ..
theorem weight_ok {x : List Int} (h : x.length ≤ lim) : g__law_weight x = M.ok ((wtN x : Nat) : Int) := by
  unfold g__law_weight
  rw [nf_compI (fun a => !decide (a = 0)) (fun a => a) h (fun a _ => by rw [nf_B2, nf_ne]) (fun a _ _ => rfl), List.map_id', nf_B1, nf_len]
  rfl
theorem B1ok {α : Type} {m : M α} : tB1 M.ok m = m := bind_okr _
theorem Sp.snoc {p : Int} {n : Nat} {R : List (List Int)} {r z : List Int} (hp : 0 < p) (hR : Rows p n R) (hr : Vec p n r) (h : Sp p n (R ++ [r]) z) : ∃ w c, Sp p n R w ∧ 0 ≤ c ∧ c < p ∧ z = ad p w (sc p c r) := by
  have hRr : Rows p n (R ++ [r]) := hR.app fun x hx => by rw [List.mem_singleton.mp hx]; exact hr
  induction h with
  | zero =>
    refine ⟨zv n, 0, .zero, Int.le_refl _, hp, ?_⟩
    have : sc p 0 r = zv n := (sc_vec hp hr.1).ext hp (zv_vec hp) fun j _ => by rw [cd_sc, cd_zv, Int.mul_zero]; exact eqm.mod eqm.rfl'
    rw [this, ad_zero hp (zv_vec hp)]
  | @step v r' c' h hr' ih =>
    obtain ⟨w, c, hw, c1, c2, rfl⟩ := ih
    have vw := hw.vec hp hR
    have v1 := sc_vec (p := p) (a := c) hp hr.1
    have v2 := sc_vec (p := p) (a := c') hp (hRr _ hr').1
    rcases List.mem_append.mp hr' with q | q
    · refine ⟨ad p w (sc p c' r'), c, .step c' hw q, c1, c2, ?_⟩
      have a1 := ad_vec (p := p) hp vw.1 v1.1
      have a2 := ad_vec (p := p) hp vw.1 v2.1
      refine (ad_vec hp a1.1 v2.1).ext hp (ad_vec hp a2.1 v1.1) fun j _ => ?_
      rw [cd_ad (a1.1.trans v2.1.symm), cd_ad (vw.1.trans v1.1.symm), cd_ad (a2.1.trans v1.1.symm), cd_ad (vw.1.trans v2.1.symm)]
      have e1 : eqm p (((cd w j + cd (sc p c r) j) % p + cd (sc p c' r') j) % p) ((cd w j + cd (sc p c r) j) + cd (sc p c' r') j) := by repeat (first | apply eqm.mod | apply eqm.add | apply eqm.mul | apply eqm.sub | apply eqm.neg | exact eqm.rfl')
      have e2 : eqm p (((cd w j + cd (sc p c' r') j) % p + cd (sc p c r) j) % p) ((cd w j + cd (sc p c' r') j) + cd (sc p c r) j) := by repeat (first | apply eqm.mod | apply eqm.add | apply eqm.mul | apply eqm.sub | apply eqm.neg | exact eqm.rfl')
      exact e1.trans ((eqm.of_eq (by omega)).trans e2.symm)
    · have q := List.mem_singleton.mp q
      subst q
      refine ⟨w, (c + c') % p, hw, Int.emod_nonneg _ (by omega), Int.emod_lt_of_pos _ hp, ?_⟩
      have a1 := ad_vec (p := p) hp vw.1 v1.1
      have v3 := sc_vec (p := p) (a := (c + c') % p) hp hr.1
      refine (ad_vec hp a1.1 v2.1).ext hp (ad_vec hp vw.1 v3.1) fun j _ => ?_
      rw [cd_ad (a1.1.trans v2.1.symm), cd_ad (vw.1.trans v1.1.symm), cd_ad (vw.1.trans v3.1.symm), cd_sc, cd_sc, cd_sc]
      have e1 : eqm p (((cd w j + cd r' j * c % p) % p + cd r' j * c' % p) % p) ((cd w j + cd r' j * c) + cd r' j * c') := by repeat (first | apply eqm.mod | apply eqm.add | apply eqm.mul | apply eqm.sub | apply eqm.neg | exact eqm.rfl')
      have e2 : eqm p ((cd w j + cd r' j * ((c + c') % p) % p) % p) (cd w j + cd r' j * (c + c')) := by repeat (first | apply eqm.mod | apply eqm.add | apply eqm.mul | apply eqm.sub | apply eqm.neg | exact eqm.rfl')
      exact e1.trans ((eqm.of_eq (by grind)).trans e2.symm)
/-- words and multiples, one for each -/
def wide (p : Int) (r : List Int) (w : List Int) : List (List Int) := ((List.range p.toNat).map fun (k : Nat) => (k : Int)).map fun c => ad p w (sc p c r)
theorem mem_wide {p : Int} (hp : 0 < p) {r w z : List Int} : z ∈ wide p r w ↔ ∃ c, 0 ≤ c ∧ c < p ∧ z = ad p w (sc p c r) := by
  unfold wide
  rw [List.mem_map]
  constructor
  · rintro ⟨c, hc, rfl⟩
    obtain ⟨k, hk, rfl⟩ := List.mem_map.mp hc
    have := List.mem_range.mp hk
    exact ⟨k, by omega, by omega, rfl⟩
  · rintro ⟨c, h1, h2, rfl⟩
    exact ⟨c, List.mem_map.mpr ⟨c.toNat, List.mem_range.mpr (by omega), by omega⟩, rfl⟩
theorem wide_len {p : Int} {r w : List Int} : (wide p r w).length = p.toNat := by simp [wide]
theorem mem_wides {p : Int} {n : Nat} (hp : 0 < p) {R : List (List Int)} {r z : List Int} {ks : List (List Int)} (hR : Rows p n R) (hr : Vec p n r) (hk : ∀ v, v ∈ ks ↔ Sp p n R v) : z ∈ ks.flatMap (wide p r) ↔ Sp p n (R ++ [r]) z := by
  have hRr : Rows p n (R ++ [r]) := hR.app fun x hx => by rw [List.mem_singleton.mp hx]; exact hr
  rw [List.mem_flatMap]
  constructor
  · rintro ⟨w, hw, hz⟩
    obtain ⟨c, _, _, rfl⟩ := (mem_wide hp).mp hz
    exact .step c (Sp.sub hp hR hRr (fun x hx => Sp.mem hp hRr (List.mem_append_left _ hx)) ((hk w).mp hw)) (List.mem_append_right _ (List.mem_singleton.mpr rfl))
  · intro h
    obtain ⟨w, c, h1, h2, h3, h4⟩ := Sp.snoc hp hR hr h
    exact ⟨w, (hk w).mpr h1, (mem_wide hp).mpr ⟨c, h2, h3, h4⟩⟩
theorem zeros_ok {n : Nat} (hn : n ≤ 1000) : tB1 M.ok (tComp (tB1 oRng1 (M.ok (n : Int))) fun x2 => (M.ok (0 : Int))) = M.ok (zv n) := by
  rw [nf_B1, nf_rng1 (by omega), nf_comp (fun _ => 0) (by rw [List.length_map, List.length_range]; unfold lim; omega) (fun x _ => rfl), nf_B1]
  congr 1
  rw [List.map_map]
  unfold zv
  apply List.ext_getElem <;> simp
theorem pw_le {a i j : Nat} (h : i ≤ j) (ha : 0 < a) : a ^ i ≤ a ^ j := Nat.pow_le_pow_right ha h
theorem sorted_code {p : Int} {n : Nat} {R ks : List (List Int)} (hp : 0 < p) (hR : Rows p n R) (hk : ks.Nodup) (h : ∀ v, v ∈ ks ↔ Sp p n R v) : IsCode p n (isort (lexL ltI) ks) := by
  have hm : ∀ v, v ∈ isort (lexL ltI) ks ↔ Sp p n R v := fun v => (isort_mem v ks).trans (h v)
  have T := tot_lex tot_int
  refine ⟨?_, fun x hx => ((hm x).mp hx).vec hp hR, (hm _).mpr .zero, fun x hx y hy => (hm _).mpr (Sp.add hp hR ((hm x).mp hx) ((hm y).mp hy)), fun x hx a => (hm _).mpr (Sp.scl hp hR ((hm x).mp hx))⟩
  refine (isort_sorted T ks hk).imp fun {a b} q e => ?_
  rw [e, T.irr] at q
  cases q
theorem words_ok {p : Int} {n : Nat} {R : List (List Int)} (hp : p ∈ primes) (hn : n ≤ 1000) (h : Rows p n R) (hb : p.toNat ^ R.length ≤ 1000000) :
    ∃ W, IsCode p n W ∧ (∀ v, v ∈ W ↔ Sp p n R v) ∧ W.length ≤ 1000000 ∧ W.Pairwise (fun a b => lexL ltI a b = true) ∧ g__law_words p (n : Int) R = M.ok W := by
  have hp' := prime_lt hp
  have hp0 : 0 < p := by omega
  have hpn : 0 < p.toNat := by omega
  suffices hs : ∃ ks, ks.Nodup ∧ (∀ v, v ∈ ks ↔ Sp p n R v) ∧ ks.length ≤ 1000000 ∧ g__law_words p (n : Int) R = M.ok (isort (lexL ltI) ks) by
    obtain ⟨ks, h1, h2, h4, h3⟩ := hs
    exact ⟨_, sorted_code hp0 h h1 h2, fun v => (isort_mem v ks).trans (h2 v), by rw [isort_len]; exact h4, isort_sorted (tot_lex tot_int) ks h1, h3⟩
  unfold g__law_words
  rw [zeros_ok hn, nf_B2, nf_bind, nf_bind]
  refine forI_bind (Q := fun m => ∃ ks, ks.Nodup ∧ (∀ v, v ∈ ks ↔ Sp p n R v) ∧ ks.length ≤ 1000000 ∧ m = M.ok (isort (lexL ltI) ks))
    (fun i s => i ≤ R.length ∧ (ksOf s).Nodup ∧ (∀ v, v ∈ ksOf s ↔ Sp p n (R.take i) v) ∧ s.length ≤ p.toNat ^ i) ?_ (fun i r s hr hI => ?_) ?_
  · refine ⟨Nat.zero_le _, by simp [ksOf], fun v => ?_, by simp⟩
    show v ∈ [zv n] ↔ Sp p n [] v
    rw [List.mem_singleton]
    constructor
    · rintro rfl; exact .zero
    · intro q
      cases q with
      | zero => rfl
      | step c h hr => cases hr
  · obtain ⟨hi, h1, h2, h3⟩ := hI
    obtain ⟨hi', er⟩ := List.getElem?_eq_some_iff.mp hr
    have hR : Rows p n (R.take i) := fun x hx => h x (List.mem_of_mem_take hx)
    have vr : Vec p n r := h r (List.mem_of_getElem? hr)
    have ht : R.take (i + 1) = R.take i ++ [r] := by rw [List.take_succ, hr]; rfl
    have hpw : p.toNat ^ (i + 1) ≤ 1000000 := Nat.le_trans (pw_le (by omega) hpn) hb
    have hlen : s.length * p.toNat ≤ p.toNat ^ (i + 1) := by rw [Nat.pow_succ]; exact Nat.mul_le_mul_right _ h3
    have vk : ∀ w ∈ ksOf s, Vec p n w := fun w hw => ((h2 w).mp hw).vec hp0 hR
    rw [nf_bind, nf_B1, nf_keys, nf_bind]
    obtain ⟨s', e1, e2⟩ := putFor2 (γ := Unit) (f := fun x7 (s6 : (List ((List Int) × Bool))) =>
 (M.bind (tB1 oRng1 (M.ok p)) fun l => M.bind (tForS (fun x9 (s8 : (List ((List Int) × Bool))) =>
 (M.bind (M.bind (M.ok true) fun v => M.bind (tB1 M.ok (tComp (tB1 oRng1 (M.ok (n : Int))) fun x11 => (tB2 oMod (tB2 oAdd (tB2 oIx (M.ok x7) (M.ok x11)) (tB2 oMul (M.ok x9) (tB2 oIx (M.ok r) (M.ok x11)))) (M.ok p)))) fun n => oDPut s8 n v) fun wider10 =>
 (M.ok wider10))) l s6) fun s8 =>
 (M.ok s8))) (h := wide p r) (m := p.toNat) (l := ksOf s) (fun w _ => wide_len) (fun w hw s6 hs6 => by
      obtain ⟨s7, q1, q2⟩ := putFor (f := fun x9 (s8 : (List ((List Int) × Bool))) =>
 (M.bind (M.bind (M.ok true) fun v => M.bind (tB1 M.ok (tComp (tB1 oRng1 (M.ok (n : Int))) fun x11 => (tB2 oMod (tB2 oAdd (tB2 oIx (M.ok w) (M.ok x11)) (tB2 oMul (M.ok x9) (tB2 oIx (M.ok r) (M.ok x11)))) (M.ok p)))) fun n => oDPut s8 n v) fun wider10 =>
 (M.ok wider10))) (h := fun c => ad p w (sc p c r)) (l := (List.range p.toNat).map fun (k : Nat) => (k : Int)) (fun c hc s8 hs8 => by
        obtain ⟨s9, t1, t2⟩ := dput_ok (x := ad p w (sc p c r)) (v := true) hs8
        refine ⟨s9, ?_, t2⟩
        obtain ⟨ck, hck, rfl⟩ := List.mem_map.mp hc
        have hck := List.mem_range.mp hck
        have vw := vk w hw
        have e : (tB1 M.ok (tComp (tB1 oRng1 (M.ok (n : Int))) fun x11 => (tB2 oMod (tB2 oAdd (tB2 oIx (M.ok w) (M.ok x11)) (tB2 oMul (M.ok (ck : Int)) (tB2 oIx (M.ok r) (M.ok x11)))) (M.ok p)))) = M.ok (ad p w (sc p (ck : Int) r)) := by
          rw [nf_B1, nf_rng1 (by omega), nf_comp (fun x => (cd w x.toNat + (ck : Int) * cd r x.toNat) % p) (by rw [List.length_map, List.length_range]; unfold lim; omega) (fun x hx => by
            obtain ⟨k, hk, rfl⟩ := List.mem_map.mp hx
            have hk := List.mem_range.mp hk
            rw [nf_B2, nf_B2, nf_ix (cd_get (by rw [vw.1]; exact hk)), nf_ix (cd_get (by rw [vr.1]; exact hk)), nf_B2, nf_mul (.inl (small_of (by omega) (by omega))), nf_B2, nf_add, nf_B2, nf_mod (by omega), fm hp0]
            simp), nf_B1]
          congr 1
          have a1 := sc_vec (p := p) (a := (ck : Int)) hp0 vr.1
          have a2 := ad_vec (p := p) hp0 vw.1 a1.1
          rw [← range_cd a2.1, List.map_map]
          apply List.map_congr_left
          intro k _
          rw [cd_ad (vw.1.trans a1.1.symm), cd_sc]
          have e1 : eqm p (cd w k + (ck : Int) * cd r k) (cd w k + cd r k * (ck : Int) % p) := eqm.add eqm.rfl' ((eqm.of_eq (Int.mul_comm _ _)).trans (eqm.mod eqm.rfl').symm)
          exact e1
        rw [e, nf_bind, nf_bind, t1, nf_bind]) s6 (by rw [List.length_map, List.length_range]; exact hs6)
      refine ⟨s7, ?_, q2⟩
      rw [nf_B1, nf_rng1' (by omega) (by omega), nf_bind, q1, nf_bind]) [] (by rw [ks_len]; simp; unfold lim; omega)
    refine ⟨s', ?_, hi', ?_, ?_, ?_⟩
    · rw [show List.map (·.1) s = ksOf s from rfl, e1, nf_bind]
    · rw [e2]; exact puts_nodup (by simp [ksOf])
    · intro v
      rw [e2, puts_mem, ht, ← mem_wides hp0 hR vr h2]
      simp [ksOf]
    · have := puts_len (l := (ksOf s).flatMap (wide p r)) (ks := [])
      rw [← ks_len, e2]
      refine Nat.le_trans this ?_
      have e3 : ((ksOf s).flatMap (wide p r)).length = s.length * p.toNat := by
        rw [List.length_flatMap, ← ks_len (l := s)]
        generalize ksOf s = ks
        induction ks with
        | nil => simp
        | cons a ks ih => rw [List.map_cons, List.sum_cons, ih, wide_len, List.length_cons, Nat.add_mul, Nat.one_mul, Nat.add_comm]
      rw [e3]; simpa using hlen
  · rintro s ⟨_, h1, h2, h3⟩
    rw [List.take_length] at h2
    have hl : s.length ≤ 1000000 := Nat.le_trans h3 hb
    refine ⟨ksOf s, h1, h2, by rw [ks_len]; exact hl, ?_⟩
    rw [show List.map (·.1) s = ksOf s from rfl, nf_comp (f := fun x11 : List Int => M.ok x11) (fun x => x) (by rw [ks_len]; unfold lim; omega) (fun x _ => rfl), List.map_id', nf_B1]
    unfold oSorted
    rw [if_pos]
    by_cases hn0 : n = 0
    · rw [Bool.or_eq_true]
      refine .inr (List.all_eq_true.mpr fun x hx => ?_)
      have := (((h2 x).mp hx).vec hp0 h).1
      rw [List.isEmpty_iff]; exact List.eq_nil_of_length_eq_zero (by omega)
    · rw [Bool.or_eq_true]
      refine .inl (List.all_eq_true.mpr fun x hx => ?_)
      have := (((h2 x).mp hx).vec hp0 h).1
      cases x with
      | nil => simp at this; omega
      | cons a x => rfl
/-- the numbers of words by weight -/
def nums (n : Nat) (W : List (List Int)) : List Int := (List.range (n + 1)).map (cnt wtN W)
theorem nums_len {n : Nat} {W : List (List Int)} : (nums n W).length = n + 1 := by simp [nums]
theorem cd_nums {n i : Nat} {W : List (List Int)} (h : i < n + 1) : cd (nums n W) i = cnt wtN W i := cd_range h
theorem numbers_of_ok {n : Nat} {W : List (List Int)} (hn : n ≤ 1000) (h : ∀ x ∈ W, x.length = n) : g__law_numbers_of W (n : Int) = M.ok (nums n W) := by
  unfold g__law_numbers_of
  rw [nf_B2, nf_add, show ((n : Int) + 1) = ((n + 1 : Nat) : Int) by omega, nf_B1, nf_rng1 (by omega), nf_comp (fun _ => 0) (by rw [List.length_map, List.length_range]; unfold lim; omega) (fun x _ => rfl), nf_bind, nf_bind]
  refine forI_bind (Q := fun m => m = M.ok (nums n W)) (fun i s => s = nums n (W.take i)) ?_ (fun i x s hx hs => ?_) (fun s hs => ?_)
  · rw [List.map_map]; rfl
  · subst hs
    have hxl := h x (List.mem_of_getElem? hx)
    have hw : wtN x < n + 1 := by have := wtN_le x; omega
    have ht : W.take (i + 1) = W.take i ++ [x] := by rw [List.take_succ, hx]; rfl
    have wk := weight_ok (x := x) (by rw [hxl]; unfold lim; omega)
    rw [nf_B1, wk, nf_B2, nf_ix (cd_get (by rw [nums_len]; exact hw)), nf_B2, nf_add, nf_bind, nf_bind]
    have e : oSet (nums n (W.take i)) ((wtN x : Nat) : Int) (cd (nums n (W.take i)) (wtN x) + 1) = M.ok (nums n (W.take (i + 1))) := by
      unfold oSet
      rw [ixN_of (by rw [nums_len]; exact hw)]
      show M.ok _ = M.ok _
      congr 1
      rw [cd_nums hw, ht]
      apply List.ext_getElem?
      intro k
      by_cases hk : wtN x = k
      · subst hk
        rw [List.getElem?_set_self (by rw [nums_len]; exact hw), cd_get (by rw [nums_len]; exact hw), cd_nums hw]
        unfold cnt
        rw [lsum_snoc, if_pos rfl]
      · rw [List.getElem?_set_ne hk]
        by_cases hk2 : k < n + 1
        · rw [cd_get (by rw [nums_len]; exact hk2), cd_get (by rw [nums_len]; exact hk2), cd_nums hk2, cd_nums hk2]
          unfold cnt
          rw [lsum_snoc, if_neg hk, Int.add_zero]
        · rw [List.getElem?_eq_none (by rw [nums_len]; omega), List.getElem?_eq_none (by rw [nums_len]; omega)]
    rw [e, nf_bind]
    exact ⟨_, rfl, rfl⟩
  · rw [hs, List.take_length]; rfl
end Law

set_option Elab.async false
set_option linter.all false
set_option maxRecDepth 1000000
set_option maxHeartbeats 4000000
namespace Law
open PySem Mp
/-! the plain side -/
def allW (p : Int) : Nat → List (List Int)
  | 0 => [[]]
  | n + 1 => (allW p n).flatMap fun w => (List.range p.toNat).map fun (a : Nat) => w ++ [(a : Int)]
def binom : Nat → Nat → Int
  | _, 0 => 1
  | 0, _ + 1 => 0
  | n + 1, k + 1 => binom n k + binom n (k + 1)
def krP (p : Int) (n j i : Nat) : Int := (List.range (j + 1)).foldl (fun t s => t + (if s % 2 = 1 then -1 else 1) * (p - 1) ^ (j - s) * binom i s * binom (n - i) (j - s)) 0
def plac : Nat → List (List Int)
  | 0 => [[]]
  | n + 1 => plac n ++ (plac n).map fun q => q ++ [(n : Int)]
def placS (n s : Nat) : List (List Int) := (plac n).filter fun q => decide ((q.length : Int) = (s : Int))
/-! the computations do not look at the register -/
theorem pur_binom {n k : Int} : Pur (g_binomial n k) := by
  unfold g_binomial
  repeat' (first | exact pur_ok | exact pur_stuck | exact pur_mul | exact pur_div | exact pur_mod | exact pur_cat | exact pur_rng1 | exact pur_app | exact pur_set | exact pur_ix | apply pur_if | apply pur_or | apply pur_forS | apply pur_comp | apply pur_compI | apply pur_B1 | apply pur_B2 | apply pur_bind | intro _)
theorem pur_kr {p n j i : Int} : Pur (g_krawtchouk p n j i) := by
  unfold g_krawtchouk
  repeat' (first | exact pur_ok | exact pur_stuck | exact pur_binom | exact pur_mul | exact pur_div | exact pur_mod | exact pur_cat | exact pur_rng1 | exact pur_app | exact pur_set | exact pur_ix | apply pur_if | apply pur_or | apply pur_forS | apply pur_comp | apply pur_compI | apply pur_B1 | apply pur_B2 | apply pur_bind | intro _)
theorem pur_all {p n : Int} : Pur (g__law_all p n) := by
  unfold g__law_all
  repeat' (first | exact pur_ok | exact pur_stuck | exact pur_d0 | apply pur_d1 | exact pur_mul | exact pur_div | exact pur_mod | exact pur_cat | exact pur_rng1 | exact pur_app | exact pur_set | exact pur_ix | apply pur_if | apply pur_or | apply pur_forS | apply pur_comp | apply pur_compI | apply pur_B1 | apply pur_B2 | apply pur_bind | intro _)
theorem pur_weight {x : List Int} : Pur (g__law_weight x) := by
  unfold g__law_weight
  repeat' (first | exact pur_ok | exact pur_stuck | exact pur_d0 | apply pur_d1 | exact pur_mul | exact pur_div | exact pur_mod | exact pur_cat | exact pur_rng1 | exact pur_app | exact pur_set | exact pur_ix | apply pur_if | apply pur_or | apply pur_forS | apply pur_comp | apply pur_compI | apply pur_B1 | apply pur_B2 | apply pur_bind | intro _)
theorem pur_turning {p n : Int} : Pur (g__law_turning p n) := by
  unfold g__law_turning
  repeat' (first | exact pur_ok | exact pur_stuck | exact pur_all | exact pur_weight | exact pur_d0 | apply pur_d1 | exact pur_mul | exact pur_div | exact pur_mod | exact pur_cat | exact pur_rng1 | exact pur_app | exact pur_set | exact pur_ix | apply pur_if | apply pur_or | apply pur_forS | apply pur_comp | apply pur_compI | apply pur_B1 | apply pur_B2 | apply pur_bind | intro _)
theorem pur_places {n s : Int} : Pur (g__law_places n s) := by
  unfold g__law_places
  repeat' (first | exact pur_ok | exact pur_stuck | exact pur_d0 | apply pur_d1 | exact pur_mul | exact pur_div | exact pur_mod | exact pur_cat | exact pur_rng1 | exact pur_app | exact pur_set | exact pur_ix | apply pur_if | apply pur_or | apply pur_forS | apply pur_comp | apply pur_compI | apply pur_B1 | apply pur_B2 | apply pur_bind | intro _)
/-! the finite checks -/
def table (p : Int) (n : Nat) : List (List Int) := (List.range (n + 1)).map fun i => (List.range (n + 1)).map fun j => krP p n j i
def chkA (s : Int × Nat) : Bool := okIs (g__law_all s.1 (s.2 : Int)) (allW s.1 s.2) && (allW s.1 s.2).all (fun x => decide (x.length = s.2)) && decide ((allW s.1 s.2).length ≤ 1000) && (allW s.1 s.2).all (fun x => x.all fun z => decide (0 ≤ z) && decide (z < s.1))
def chkK (s : Int × Nat) : Bool := (List.range (s.2 + 1)).all fun j => (List.range (s.2 + 1)).all fun i => okIs (g_krawtchouk s.1 (s.2 : Int) (j : Int) (i : Int)) (krP s.1 s.2 j i)
def chkB : Bool := (List.range 6).all fun n => (List.range 6).all fun k => okIs (g_binomial (n : Int) (k : Int)) (binom n k)
def chkT (s : Int × Nat) : Bool := okIs (g__law_turning s.1 (s.2 : Int)) (table s.1 s.2)
def chkP : Bool := (List.range 6).all fun n => (List.range (n + 1)).all fun s => okIs (g__law_places (n : Int) (s : Int)) (placS n s) && (placS n s).all (fun q => q.all fun k => decide (0 ≤ k) && decide (k < (n : Int))) && decide ((placS n s).length ≤ 1000)
/-- the sums over the words of one weight -/
def chkS (s : Int × Nat) : Bool := let Y := allW s.1 s.2
  Y.all fun x => (List.range (s.2 + 1)).all fun j => decide (krP s.1 s.2 j (wtN x) = lsum (fun y => if wtN y = j then chi s.1 (dotP s.2 x y) else 0) Y)
def chkKK (s : Int × Nat) : Bool := (List.range (s.2 + 1)).all fun i => decide (krP s.1 s.2 0 i = 1) && (List.range (s.2 + 1)).all fun l =>
  decide (sm (fun j => krP s.1 s.2 j l * krP s.1 s.2 i j) (s.2 + 1) = if l = i then s.1 ^ s.2 else 0) && decide (sm (fun j => binom (s.2 - j) (s.2 - l) * krP s.1 s.2 j i) (s.2 + 1) = s.1 ^ l * binom (s.2 - i) l)
def zerosOn (x q : List Int) : Bool := q.all fun k => decide (cd x k.toNat = 0)
def chkZ (s : Int × Nat) : Bool := (allW s.1 s.2).all fun x => (List.range (s.2 + 1)).all fun t => decide ((((placS s.2 t).filter (zerosOn x)).length : Int) = binom (s.2 - wtN x) t)
theorem allB : chkB = true := by decide +kernel
theorem allP : chkP = true := by decide +kernel
theorem allA : shapes.all chkA = true := by decide +kernel
theorem allK : shapes.all chkK = true := by decide +kernel
theorem allKK : shapes.all chkKK = true := by decide +kernel
end Law

set_option Elab.async false
set_option linter.all false
set_option maxRecDepth 1000000
set_option maxHeartbeats 4000000
namespace Law
open PySem Mp
theorem allZ : shapes.all chkZ = true := by decide +kernel
theorem allS : shapes.all chkS = true := by decide +kernel
end Law

set_option Elab.async false
set_option linter.all false
set_option maxRecDepth 1000000
set_option maxHeartbeats 4000000
namespace Law
open PySem Mp
theorem allT : shapes.all chkT = true := by decide +kernel
end Law

set_option Elab.async false
set_option linter.all false
set_option maxRecDepth 100000
set_option maxHeartbeats 4000000
namespace Law
open PySem Mp
section
variable {s : Int × Nat}
theorem sp {s : Int × Nat} (hs : s ∈ shapes) : s.1 ∈ primes ∧ 1 < s.1 ∧ s.1 < 10 ∧ s.2 ≤ 5 := ⟨(shape_p hs).1, (prime_lt (shape_p hs).1).1, (prime_lt (shape_p hs).1).2, (shape_p hs).2⟩
theorem all_ok (hs : s ∈ shapes) : g__law_all s.1 (s.2 : Int) = M.ok (allW s.1 s.2) ∧ (∀ x ∈ allW s.1 s.2, Vec s.1 s.2 x) ∧ (allW s.1 s.2).length ≤ 1000 := by
  have h := List.all_eq_true.mp allA s hs
  unfold chkA at h
  simp only [Bool.and_eq_true, decide_eq_true_eq, List.all_eq_true] at h
  obtain ⟨⟨⟨h1, h2⟩, h3⟩, h4⟩ := h
  exact ⟨pur_all.is h1, fun x hx => ⟨h2 x hx, fun z hz => h4 x hx z hz⟩, h3⟩
theorem kr_ok (hs : s ∈ shapes) {j i : Nat} (hj : j < s.2 + 1) (hi : i < s.2 + 1) : g_krawtchouk s.1 (s.2 : Int) (j : Int) (i : Int) = M.ok (krP s.1 s.2 j i) := by
  have h := List.all_eq_true.mp allK s hs
  unfold chkK at h
  have h := List.all_eq_true.mp h j (List.mem_range.mpr hj)
  have h := List.all_eq_true.mp h i (List.mem_range.mpr hi)
  exact pur_kr.is h
theorem bin_ok {n k : Nat} (hn : n < 6) (hk : k < 6) : g_binomial (n : Int) (k : Int) = M.ok (binom n k) := by
  have h := List.all_eq_true.mp allB n (List.mem_range.mpr hn)
  have h := List.all_eq_true.mp h k (List.mem_range.mpr hk)
  exact pur_binom.is h
theorem bin_small {n k : Nat} (hn : n < 6) (hk : k < 6) : small (binom n k) = true := by
  have h : ((List.range 6).all fun n => (List.range 6).all fun k => small (binom n k)) = true := by decide +kernel
  have h := List.all_eq_true.mp h n (List.mem_range.mpr hn)
  exact List.all_eq_true.mp h k (List.mem_range.mpr hk)
theorem turning_ok (hs : s ∈ shapes) : g__law_turning s.1 (s.2 : Int) = M.ok (table s.1 s.2) := pur_turning.is (List.all_eq_true.mp allT s hs)
theorem places_ok {n t : Nat} (hn : n < 6) (ht : t < n + 1) : g__law_places (n : Int) (t : Int) = M.ok (placS n t) ∧ (∀ q ∈ placS n t, ∀ k ∈ q, 0 ≤ k ∧ k < (n : Int)) ∧ (placS n t).length ≤ 1000 := by
  have h := List.all_eq_true.mp allP n (List.mem_range.mpr hn)
  have h := List.all_eq_true.mp h t (List.mem_range.mpr ht)
  simp only [Bool.and_eq_true, decide_eq_true_eq, List.all_eq_true] at h
  exact ⟨pur_places.is h.1.1, fun q hq k hk => h.1.2 q hq k hk, h.2⟩
theorem sums_ok (hs : s ∈ shapes) {x : List Int} (hx : x ∈ allW s.1 s.2) {j : Nat} (hj : j < s.2 + 1) : krP s.1 s.2 j (wtN x) = lsum (fun y => if wtN y = j then chi s.1 (dotP s.2 x y) else 0) (allW s.1 s.2) := by
  have h := List.all_eq_true.mp allS s hs
  have h : (allW s.1 s.2).all (fun x => (List.range (s.2 + 1)).all fun j => decide (krP s.1 s.2 j (wtN x) = lsum (fun y => if wtN y = j then chi s.1 (dotP s.2 x y) else 0) (allW s.1 s.2))) = true := h
  have h := List.all_eq_true.mp h x hx
  have h := List.all_eq_true.mp h j (List.mem_range.mpr hj)
  exact of_decide_eq_true h
theorem kk_ok (hs : s ∈ shapes) {i l : Nat} (hi : i < s.2 + 1) (hl : l < s.2 + 1) : krP s.1 s.2 0 i = 1 ∧ sm (fun j => krP s.1 s.2 j l * krP s.1 s.2 i j) (s.2 + 1) = (if l = i then s.1 ^ s.2 else 0) ∧ sm (fun j => binom (s.2 - j) (s.2 - l) * krP s.1 s.2 j i) (s.2 + 1) = s.1 ^ l * binom (s.2 - i) l := by
  have h := List.all_eq_true.mp allKK s hs
  unfold chkKK at h
  have h := List.all_eq_true.mp h i (List.mem_range.mpr hi)
  rw [Bool.and_eq_true] at h
  have h2 := List.all_eq_true.mp h.2 l (List.mem_range.mpr hl)
  simp only [Bool.and_eq_true, decide_eq_true_eq] at h h2
  exact ⟨h.1, h2⟩
theorem zeros_on (hs : s ∈ shapes) {x : List Int} (hx : x ∈ allW s.1 s.2) {t : Nat} (ht : t < s.2 + 1) : (((placS s.2 t).filter (zerosOn x)).length : Int) = binom (s.2 - wtN x) t := by
  have h := List.all_eq_true.mp allZ s hs
  unfold chkZ at h
  have h := List.all_eq_true.mp h x hx
  have h := List.all_eq_true.mp h t (List.mem_range.mpr ht)
  exact of_decide_eq_true h
theorem mem_all : ∀ {p : Int} {n : Nat} {x : List Int}, Vec p n x → x ∈ allW p n
  | p, 0, x, h => by
    have : x = [] := List.eq_nil_of_length_eq_zero h.1
    rw [this]; simp [allW]
  | p, n + 1, x, h => by
    unfold allW
    have hne : x ≠ [] := fun z => by have := h.1; rw [z] at this; simp at this
    rw [List.mem_flatMap]
    have hl := List.dropLast_concat_getLast hne
    have hz := h.2 _ (List.getLast_mem hne)
    refine ⟨x.dropLast, mem_all ⟨by rw [List.length_dropLast, h.1]; rfl, fun z hz => h.2 z (List.dropLast_subset x hz)⟩, List.mem_map.mpr ⟨(x.getLast hne).toNat, List.mem_range.mpr (by omega), ?_⟩⟩
    rw [Int.toNat_of_nonneg hz.1]
    exact hl
end
theorem dot_ok {n : Nat} {x y : List Int} (hn : n ≤ 1000) (hx : x.length = n) (hy : y.length = n) (hb : ∀ z ∈ x, small z = true) :
    tB1 oSum (tComp (tB1 oRng1 (M.ok (n : Int))) fun x5 => tB2 oMul (tB2 oIx (M.ok x) (M.ok x5)) (tB2 oIx (M.ok y) (M.ok x5))) = M.ok (dotP n x y) := by
  rw [nf_B1, nf_rng1 (by omega), nf_comp (fun k => cd x k.toNat * cd y k.toNat) (by rw [List.length_map, List.length_range]; unfold lim; omega) (fun k hk => by
    obtain ⟨k, hk2, rfl⟩ := List.mem_map.mp hk
    have hk := List.mem_range.mp hk2
    have g := cd_get (x := x) (k := k) (by omega)
    rw [nf_B2, nf_B2, nf_ix g, nf_ix (cd_get (x := y) (k := k) (by omega)), nf_B2, nf_mul (.inl (hb _ (List.mem_of_getElem? g)))]
    simp), nf_B1, nf_sum, List.map_map]
  congr 1
  exact sum_range (fun k => cd x k * cd y k) n
theorem vec_small {p : Int} (hp : p < 10) {n : Nat} {v : List Int} (h : Vec p n v) : ∀ z ∈ v, small z = true := fun z hz => small_of (by have := h.2 z hz; omega) (by have := h.2 z hz; omega)
theorem take_filter {α : Type} {P : α → Bool} {l : List α} {i : Nat} {x : α} (h : l[i]? = some x) : (l.take (i + 1)).filter P = (l.take i).filter P ++ if P x then [x] else [] := by
  rw [List.take_succ, h, List.filter_append]
  congr 1
  show List.filter P [x] = _
  rw [List.filter_cons]
  split <;> rfl
theorem dual_ok {s : Int × Nat} (hs : s ∈ shapes) {W : List (List Int)} (hW : ∀ x ∈ W, Vec s.1 s.2 x) (hl : W.length ≤ 1000000) : g__law_dual s.1 (s.2 : Int) W = M.ok ((allW s.1 s.2).filter (perp s.1 s.2 W)) := by
  obtain ⟨a1, a2, a3⟩ := all_ok hs
  obtain ⟨p1, p2, p3, p4⟩ := sp hs
  unfold g__law_dual
  rw [nf_d0, nf_bind, nf_B2, a1, nf_bind]
  refine forI_bind (Q := fun m => m = M.ok ((allW s.1 s.2).filter (perp s.1 s.2 W))) (fun i t => t = ((allW s.1 s.2).take i).filter (perp s.1 s.2 W)) rfl (fun i y t hy ht => ?_) (fun t ht => by rw [ht, List.take_length])
  subst ht
  have vy := a2 y (List.mem_of_getElem? hy)
  have e : tCompI (M.ok W) (fun x4 => (tB2 oNe (tB2 oMod (tB1 oSum (tComp (tB1 oRng1 (M.ok (s.2 : Int))) fun x5 => (tB2 oMul (tB2 oIx (M.ok x4) (M.ok x5)) (tB2 oIx (M.ok y) (M.ok x5))))) (M.ok s.1)) (M.ok 0))) (fun x4 => (M.ok x4)) = M.ok (W.filter fun x => !decide (dotP s.2 x y % s.1 = 0)) := by
    rw [nf_compI (fun x => !decide (dotP s.2 x y % s.1 = 0)) (fun x => x) (by unfold lim; omega) (fun x hx => by
      rw [dot_ok (by omega) (hW x hx).1 vy.1 (vec_small p3 (hW x hx)), nf_B2, nf_mod (by omega), fm (by omega), nf_B2, nf_ne]) (fun x _ _ => rfl), List.map_id']
  have hz : decide (((W.filter fun x => !decide (dotP s.2 x y % s.1 = 0)).length : Int) = 0) = perp s.1 s.2 W y := by
    rw [Bool.eq_iff_iff, decide_eq_true_eq]
    unfold perp
    rw [List.all_eq_true]
    constructor
    · intro h x hx
      have h : (W.filter fun x => !decide (dotP s.2 x y % s.1 = 0)).length = 0 := by omega
      have h := List.eq_nil_of_length_eq_zero h
      rw [List.filter_eq_nil_iff] at h
      have := h x hx
      simpa using this
    · intro h
      have : (W.filter fun x => !decide (dotP s.2 x y % s.1 = 0)) = [] := by
        rw [List.filter_eq_nil_iff]
        intro x hx
        rw [h x hx]; simp
      rw [this]; rfl
  refine ⟨_, ?_, rfl⟩
  rw [e, nf_B1, nf_len, nf_B2, nf_eq, hz, nf_if, take_filter hy]
  cases hp : perp s.1 s.2 W y
  · simp
  · rw [if_pos rfl, if_pos rfl, nf_bind, app_ok (by
      have := List.length_filter_le (perp s.1 s.2 W) ((allW s.1 s.2).take i)
      have := List.length_take (i := i) (l := allW s.1 s.2)
      unfold lim; omega), nf_bind]
theorem moment_ok {n t : Nat} {v : List Int} (hn : n < 6) (ht : t < 6) (hv : v.length = n + 1) : g_binomial_moment v (t : Int) = M.ok (sm (fun i => binom (n - i) t * cd v i) (n + 1)) := by
  unfold g_binomial_moment
  rw [nf_B1, nf_len, hv, nf_B2, nf_sub, nf_bind, nf_B2, nf_add, show ((n + 1 : Nat) : Int) - 1 + 1 = ((n + 1 : Nat) : Int) by omega, nf_B1, nf_rng1 (by omega), nf_comp (fun k => binom (n - k.toNat) t * cd v k.toNat) (by rw [List.length_map, List.length_range]; unfold lim; omega) (fun k hk => by
    obtain ⟨k, hk2, rfl⟩ := List.mem_map.mp hk
    have hk := List.mem_range.mp hk2
    rw [nf_B2, nf_sub, nf_B2, show ((n + 1 : Nat) : Int) - 1 - (k : Int) = ((n - k : Nat) : Int) by omega, bin_ok (by omega) ht, nf_B2, nf_ix (cd_get (x := v) (k := k) (by omega)), nf_B2, nf_mul (.inl (bin_small (by omega) ht))]
    simp), nf_B1, nf_sum, List.map_map]
  congr 1
  exact sum_range (fun i => binom (n - i) t * cd v i) (n + 1)
theorem foldl_lsum {α : Type} {f : α → Int} : ∀ {l : List α} {c : Int}, l.foldl (fun c a => c + f a) c = c + lsum f l
  | [], c => by simp [lsum]
  | a :: l, c => by rw [List.foldl_cons, foldl_lsum]; show c + f a + lsum f l = c + (f a + lsum f l); omega
theorem pairs_ok {n : Nat} {W P : List (List Int)} (hW : ∀ x ∈ W, x.length = n) (hP : ∀ q ∈ P, ∀ k ∈ q, 0 ≤ k ∧ k < (n : Int)) (hq : ∀ q ∈ P, q.length ≤ 1000) : g__law_zero_pairs W P = M.ok (lsum (fun x => ((P.filter (zerosOn x)).length : Int)) W) := by
  unfold g__law_zero_pairs
  rw [nf_bind, nf_bind]
  have inner : ∀ x ∈ W, ∀ c : Int, (M.bind (M.ok P) fun l => M.bind (tForS (fun x5 (s4 : Int) =>
 (M.bind (tB2 oAdd (M.ok s4) (tB1 oB2i (tB2 oEq (tB1 oLen (tCompI (M.ok x5) (fun x7 => (tB2 oNe (tB2 oIx (M.ok x) (M.ok x7)) (M.ok 0))) fun x7 => (M.ok x7))) (M.ok 0)))) fun total6 =>
 (M.ok total6))) l c) fun s4 =>
 (M.ok s4)) = M.ok (c + ((P.filter (zerosOn x)).length : Int)) := fun x hx c => by
    rw [nf_bind]
    have := (nf_forS (f := fun x5 (s4 : Int) =>
 (M.bind (tB2 oAdd (M.ok s4) (tB1 oB2i (tB2 oEq (tB1 oLen (tCompI (M.ok x5) (fun x7 => (tB2 oNe (tB2 oIx (M.ok x) (M.ok x7)) (M.ok 0))) fun x7 => (M.ok x7))) (M.ok 0)))) fun total6 =>
 (M.ok total6))) (fun q c => c + if zerosOn x q then 1 else 0) (fun _ => True) (l := P) (s := c) trivial fun q hqm c _ => ⟨by
      rw [nf_compI (fun k => !decide (cd x k.toNat = 0)) (fun k => k) (by have := hq q hqm; unfold lim; omega) (fun k hk => by
        have h1 := hP q hqm k hk
        obtain ⟨m, rfl⟩ : ∃ m : Nat, k = (m : Int) := ⟨k.toNat, by omega⟩
        rw [nf_B2, nf_ix (cd_get (x := x) (k := m) (by have := hW x hx; omega)), nf_B2, nf_ne]
        simp) (fun k _ _ => rfl), List.map_id', nf_B1, nf_len, nf_B2, nf_eq, nf_B1, nf_b2i, nf_B2, nf_add, nf_bind]
      congr 2
      have : decide (((q.filter fun k => !decide (cd x k.toNat = 0)).length : Int) = 0) = zerosOn x q := by
        rw [Bool.eq_iff_iff, decide_eq_true_eq]
        unfold zerosOn
        rw [List.all_eq_true]
        constructor
        · intro h k hk
          have h : (q.filter fun k => !decide (cd x k.toNat = 0)).length = 0 := by omega
          have h := List.eq_nil_of_length_eq_zero h
          rw [List.filter_eq_nil_iff] at h
          have := h k hk
          simpa using this
        · intro h
          have : (q.filter fun k => !decide (cd x k.toNat = 0)) = [] := by
            rw [List.filter_eq_nil_iff]
            intro k hk
            rw [h k hk]; simp
          rw [this]; rfl
      rw [this], trivial⟩).1
    rw [this, nf_bind, foldl_lsum, lsum_count]
  have := (nf_forS (f := fun x3 (s2 : Int) =>
 (M.bind (M.ok P) fun l => M.bind (tForS (fun x5 (s4 : Int) =>
 (M.bind (tB2 oAdd (M.ok s4) (tB1 oB2i (tB2 oEq (tB1 oLen (tCompI (M.ok x5) (fun x7 => (tB2 oNe (tB2 oIx (M.ok x3) (M.ok x7)) (M.ok 0))) fun x7 => (M.ok x7))) (M.ok 0)))) fun total6 =>
 (M.ok total6))) l s2) fun s4 =>
 (M.ok s4))) (fun x c => c + ((P.filter (zerosOn x)).length : Int)) (fun _ => True) (l := W) (s := 0) trivial fun x hx c _ => ⟨inner x hx c, trivial⟩).1
  rw [this, nf_bind, foldl_lsum, Int.zero_add]
end Law

set_option Elab.async false
set_option linter.all false
set_option maxRecDepth 100000
set_option maxHeartbeats 4000000
namespace Law
open PySem Mp
/-! ### is_numbers -/
def flat (d : D) : Bool := match d with | .int _ => true | .bl _ => true | .non => true | _ => false
def natD (d : D) : Bool := match d with | .int z => decide (0 ≤ z) | _ => false
theorem is_int_ok {d : D} (h : flat d = true) : tAnd (tB1 g_is_integer (M.ok d)) (tB2 oGe (tB1 (oCast decI) (M.ok d)) (M.ok 0)) = M.ok (natD d) := by
  unfold g_is_integer
  cases d <;> first | rfl | (exact Bool.noConfusion h)
theorem natD_ints : ∀ {v : List Int}, (v.map D.int).all natD = true ↔ ∀ z ∈ v, 0 ≤ z
  | [] => by simp
  | a :: v => by
    rw [List.map_cons, List.all_cons, Bool.and_eq_true, natD_ints]
    simp [natD]
theorem numbers_tup {n : Nat} {ds : List D} (hl : ds.length = n + 1) (hn : n ≤ 1000) (hf : ∀ d ∈ ds, flat d = true) : g_is_numbers (n : Int) (.tup ds) = tAnd (M.ok (ds.all natD)) (tB2 oGt (tB1 oSum (tB1 (oCast decTI) (M.ok (.tup ds)))) (M.ok 0)) := by
  unfold g_is_numbers
  have e1 : tB1 (oIsi [.tuple]) (M.ok (D.tup ds)) = M.ok true := rfl
  have e2 : tB1 (oCast decTD) (M.ok (D.tup ds)) = M.ok ds := rfl
  rw [e1, e2, nf_B1, nf_not, Bool.not_true, nf_B1, nf_len, nf_B2, nf_add, nf_B2, nf_ne]
  rw [show decide ((ds.length : Int) = (n : Int) + 1) = true from decide_eq_true (by omega), Bool.not_true]
  rw [nf_comp natD (by unfold lim; omega) fun d hd => is_int_ok (hf d hd)]
  rw [nf_B1, nf_all, List.all_map]
  rfl
theorem numbers_bad1 {n : Nat} {ds : List D} (hl : ds.length ≠ n + 1) : g_is_numbers (n : Int) (.tup ds) = M.ok false := by
  unfold g_is_numbers
  have e1 : tB1 (oIsi [.tuple]) (M.ok (D.tup ds)) = M.ok true := rfl
  have e2 : tB1 (oCast decTD) (M.ok (D.tup ds)) = M.ok ds := rfl
  rw [e1, e2, nf_B1, nf_not, Bool.not_true, nf_B1, nf_len, nf_B2, nf_add, nf_B2, nf_ne]
  rw [show decide ((ds.length : Int) = (n : Int) + 1) = false from decide_eq_false (by omega)]
  rfl
theorem numbers_bad2 {n : Nat} {ds : List D} (hl : ds.length = n + 1) (hn : n ≤ 1000) (hf : ∀ d ∈ ds, flat d = true) (hb : ds.all natD = false) : g_is_numbers (n : Int) (.tup ds) = M.ok false := by
  rw [numbers_tup hl hn hf, hb]; rfl
theorem flat_ints {v : List Int} : ∀ d ∈ v.map D.int, flat d = true := fun d hd => by
  obtain ⟨z, _, rfl⟩ := List.mem_map.mp hd; rfl
theorem cast_ints {v : List Int} : tB1 (oCast decTI) (M.ok (eT D.int v)) = M.ok v := by
  show M.opt (unI (dI v)) = _
  rw [unI_dI]; rfl
theorem numbers_sum {n : Nat} {v : List Int} (hl : v.length = n + 1) (hn : n ≤ 1000) (h0 : ∀ z ∈ v, 0 ≤ z) : g_is_numbers (n : Int) (eT D.int v) = M.ok (decide (0 < v.sum)) := by
  have := numbers_tup (ds := v.map D.int) (by simpa using hl) hn flat_ints
  rw [natD_ints.mpr h0] at this
  refine this.trans ?_
  have e : tB1 (oCast decTI) (M.ok (D.tup (v.map D.int))) = M.ok v := cast_ints
  rw [e, nf_B1, nf_sum, nf_B2, nf_gt]; rfl
/-! ### macwilliams -/
def goF (T : Nat → Int) (w : Int) : List Nat → List Int → Option (List Int)
  | [], acc => some acc
  | j :: l, acc => if (T j).fmod w = 0 then goF T w l (acc ++ [(T j).fdiv w]) else none
theorem goF_len {T : Nat → Int} {w : Int} : ∀ {l : List Nat} {acc r : List Int}, goF T w l acc = some r → r.length = acc.length + l.length
  | [], acc, r, h => by cases h; rfl
  | j :: l, acc, r, h => by
    unfold goF at h
    split at h
    · rw [goF_len h]; simp; omega
    · cases h
theorem goF_all {T B : Nat → Int} {w : Int} (hw : 0 < w) : ∀ {l : List Nat} {acc : List Int}, (∀ j ∈ l, T j = w * B j) → goF T w l acc = some (acc ++ l.map B)
  | [], acc, _ => by unfold goF; simp
  | j :: l, acc, h => by
    have hj := h j (List.mem_cons_self ..)
    unfold goF
    have e1 : (T j).fmod w = 0 := by rw [hj, Int.fmod_eq_emod_of_nonneg _ (by omega), Int.mul_emod_right]
    have e2 : (T j).fdiv w = B j := by rw [hj, Int.fdiv_eq_ediv_of_nonneg _ (by omega), Int.mul_ediv_cancel_left _ (by omega)]
    rw [if_pos e1, e2, goF_all hw fun k hk => h k (List.mem_cons_of_mem _ hk)]
    simp
theorem mac_loop {T : Nat → Int} {w : Int} {f : Int → List Int → M (List Int)} : ∀ {l : List Nat} {acc : List Int}, (∀ j ∈ l, ∀ s : List Int, s.length < lim → f (j : Int) s = if (T j).fmod w = 0 then M.ok (s ++ [(T j).fdiv w]) else M.exc 2 (.str "fraction")) → acc.length + l.length < lim →
    tForS f (l.map fun (k : Nat) => (k : Int)) acc = match goF T w l acc with | some r => M.ok r | none => M.exc 2 (.str "fraction")
  | [], acc, _, _ => rfl
  | j :: l, acc, h, hl => by
    rw [List.length_cons] at hl
    rw [List.map_cons, tForS, h j (List.mem_cons_self ..) acc (by omega)]
    unfold goF
    split
    · rw [nf_bind]
      exact mac_loop (fun k hk => h k (List.mem_cons_of_mem _ hk)) (by simp; omega)
    · rfl
theorem due_loop {T : Nat → Int} {w : Int} {f : Int → List Int → M (TO (List Int) (List Int ⊕ Str))} : ∀ {l : List Nat} {acc : List Int}, (∀ j ∈ l, ∀ s : List Int, s.length < lim → f (j : Int) s = if (T j).fmod w = 0 then M.ok (.nx (s ++ [(T j).fdiv w])) else M.ok (.ret (.inr "fraction"))) → acc.length + l.length < lim →
    tFor f (l.map fun (k : Nat) => (k : Int)) acc = match goF T w l acc with | some r => M.ok (.nx r) | none => M.ok (.ret (.inr "fraction"))
  | [], acc, _, _ => rfl
  | j :: l, acc, h, hl => by
    rw [List.length_cons] at hl
    rw [List.map_cons, tFor, h j (List.mem_cons_self ..) acc (by omega)]
    unfold goF
    split
    · rw [nf_bind]
      exact due_loop (fun k hk => h k (List.mem_cons_of_mem _ hk)) (by simp; omega)
    · rw [nf_bind]
def tot (s : Int × Nat) (v : List Int) (j : Nat) : Int := sm (fun i => cd v i * krP s.1 s.2 j i) (s.2 + 1)
def ans (s : Int × Nat) (v : List Int) : List Int ⊕ Str := match goF (tot s v) v.sum (List.range (s.2 + 1)) [] with | some r => .inl r | none => .inr "fraction"
/-- numbers that may stand for words by weight -/
structure Nums (s : Int × Nat) (v : List Int) : Prop where
  len : v.length = s.2 + 1
  nn : ∀ z ∈ v, 0 ≤ z
  pos : 0 < v.sum
  bd : v.sum < 1073741824
theorem le_sum : ∀ {v : List Int}, (∀ z ∈ v, 0 ≤ z) → ∀ z ∈ v, z ≤ v.sum
  | [], _, z, hz => by cases hz
  | a :: v, h, z, hz => by
    rw [List.sum_cons]
    have h1 := h a (List.mem_cons_self ..)
    have h2 := fun b hb => h b (List.mem_cons_of_mem _ hb)
    have h3 : 0 ≤ v.sum := by
      cases v with
      | nil => simp
      | cons b v =>
        have := le_sum h2 b (List.mem_cons_self ..)
        have := h2 b (List.mem_cons_self ..)
        omega
    rcases List.mem_cons.mp hz with rfl | hz
    · omega
    · have := le_sum h2 z hz; omega
theorem Nums.small {s : Int × Nat} {v : List Int} (N : Nums s v) : ∀ z ∈ v, small z = true := fun z hz => by
  have := le_sum N.nn z hz
  have := N.nn z hz
  have := N.bd
  exact small_of (by omega) (by omega)
theorem told_ok {s : Int × Nat} {v : List Int} (hs : s ∈ shapes) (N : Nums s v) : g__law_told s.1 (s.2 : Int) (eT D.int v) = M.ok (ans s v) := by
  obtain ⟨p1, p2, p3, p4⟩ := sp hs
  have hw := N.pos
  have hb := N.bd
  have hl := N.len
  have m : g_macwilliams s.1 (s.2 : Int) (eT D.int v) = match goF (tot s v) v.sum (List.range (s.2 + 1)) [] with | some r => M.ok r | none => M.exc 2 (.str "fraction") := by
    unfold g_macwilliams
    rw [nf_B2, numbers_sum hl (by omega) N.nn, decide_eq_true hw, nf_B1, nf_not, Bool.not_true, nf_if, if_neg (by simp), cast_ints, nf_B1, nf_sum, nf_bind, nf_d0, nf_bind, nf_B2, nf_add, show ((s.2 : Int) + 1) = ((s.2 + 1 : Nat) : Int) by omega, nf_B1, nf_rng1 (by omega), nf_bind]
    rw [mac_loop (T := tot s v) (w := v.sum) (fun j hj t ht => by
      have hj := List.mem_range.mp hj
      rw [nf_comp (fun i => cd v i.toNat * krP s.1 s.2 j i.toNat) (by rw [List.length_map, List.length_range]; unfold lim; omega) (fun i hi => by
        obtain ⟨i, hi2, rfl⟩ := List.mem_map.mp hi
        have hi := List.mem_range.mp hi2
        have g := cd_get (x := v) (k := i) (by omega)
        rw [nf_B2, nf_ix g, nf_B4, kr_ok hs hj hi, nf_B2, nf_mul (.inl (N.small _ (List.mem_of_getElem? g)))]
        simp), nf_B1, nf_sum, List.map_map, nf_bind]
      have e : ((List.range (s.2 + 1)).map ((fun i : Int => cd v i.toNat * krP s.1 s.2 j i.toNat) ∘ fun (k : Nat) => (k : Int))).sum = tot s v j := sum_range (fun i => cd v i * krP s.1 s.2 j i) (s.2 + 1)
      rw [e, nf_B2, nf_mod (by omega), nf_B2, nf_ne, nf_if, nf_bind, nf_B2, nf_div (by omega) (by omega), nf_bind, app_ok ht, nf_bind]
      by_cases hz : (tot s v j).fmod v.sum = 0
      · rw [decide_eq_true hz, if_pos hz]; rfl
      · rw [decide_eq_false hz, if_neg hz]; rfl) (by rw [List.length_range]; simp; unfold lim; omega)]
    cases goF (tot s v) v.sum (List.range (s.2 + 1)) [] with
    | none => rfl
    | some r => rfl
  unfold g__law_told
  rw [nf_B3, m]
  unfold ans
  cases goF (tot s v) v.sum (List.range (s.2 + 1)) [] with
  | none => rfl
  | some r => rfl
theorem told_bad {s : Int × Nat} {d : D} (h : g_is_numbers (s.2 : Int) d = M.ok false) : g__law_told s.1 (s.2 : Int) d = M.ok (.inr "malformed") := by
  have m : g_macwilliams s.1 (s.2 : Int) d = M.exc 1 (.str "numbers") := by
    unfold g_macwilliams
    rw [nf_B2, h]; rfl
  unfold g__law_told
  rw [nf_B3, m]; rfl
theorem due_ok {s : Int × Nat} {v : List Int} (hs : s ∈ shapes) (N : Nums s v) : g__law_due s.1 (s.2 : Int) v = M.ok (ans s v) := by
  obtain ⟨p1, p2, p3, p4⟩ := sp hs
  have hw := N.pos
  have hb := N.bd
  have hl := N.len
  unfold g__law_due
  rw [nf_B2, turning_ok hs, nf_bind, nf_d0, nf_bind, nf_B2, nf_add, show ((s.2 : Int) + 1) = ((s.2 + 1 : Nat) : Int) by omega, nf_B1, nf_rng1 (by omega), nf_bind]
  rw [due_loop (T := tot s v) (w := v.sum) (fun j hj t ht => by
    have hj := List.mem_range.mp hj
    rw [nf_comp (fun i => cd v i.toNat * krP s.1 s.2 j i.toNat) (by rw [List.length_map, List.length_range]; unfold lim; omega) (fun i hi => by
      obtain ⟨i, hi2, rfl⟩ := List.mem_map.mp hi
      have hi := List.mem_range.mp hi2
      have g := cd_get (x := v) (k := i) (by omega)
      have t1 : (table s.1 s.2)[i]? = some ((List.range (s.2 + 1)).map fun j => krP s.1 s.2 j i) := by
        unfold table; rw [List.getElem?_map, List.getElem?_range hi]; rfl
      have t2 : ((List.range (s.2 + 1)).map fun j => krP s.1 s.2 j i)[j]? = some (krP s.1 s.2 j i) := by
        rw [List.getElem?_map, List.getElem?_range hj]; rfl
      rw [nf_B2, nf_ix g, nf_B2, nf_ix t1, nf_B2, nf_ix t2, nf_B2, nf_mul (.inl (N.small _ (List.mem_of_getElem? g)))]
      simp), nf_B1, nf_sum, List.map_map, nf_bind]
    have e : ((List.range (s.2 + 1)).map ((fun i : Int => cd v i.toNat * krP s.1 s.2 j i.toNat) ∘ fun (k : Nat) => (k : Int))).sum = tot s v j := sum_range (fun i => cd v i * krP s.1 s.2 j i) (s.2 + 1)
    rw [e, nf_B1, nf_sum, nf_B2, nf_mod (by omega), nf_B2, nf_ne, nf_if, nf_B2, nf_div (by omega) (by omega), nf_bind, app_ok ht, nf_bind]
    by_cases hz : (tot s v j).fmod v.sum = 0
    · rw [decide_eq_true hz, if_pos hz]; rfl
    · rw [decide_eq_false hz, if_neg hz]; rfl) (by rw [List.length_range]; simp; unfold lim; omega)]
  unfold ans
  cases goF (tot s v) v.sum (List.range (s.2 + 1)) [] with
  | none => rfl
  | some r => rfl
end Law

set_option Elab.async false
set_option linter.all false
set_option maxRecDepth 100000
set_option maxHeartbeats 4000000
namespace Law
open PySem Mp
theorem cut_to {α : Type} {l : List α} {a : Nat} (h : a ≤ l.length) : cutL l none (some (a : Int)) = l.take a := by
  unfold cutL
  rw [HT.sIx_none, HT.sIx_nat, Nat.min_eq_left h]
  simp
theorem cut_from {α : Type} {l : List α} {a : Nat} (h : a ≤ l.length) : cutL l (some (a : Int)) none = l.drop a := by
  unfold cutL
  rw [HT.sIx_none, HT.sIx_nat, Nat.min_eq_left h]
  exact List.take_of_length_le (by rw [List.length_drop]; exact Nat.le_refl _)
theorem wtN_zero {p : Int} {n : Nat} {x : List Int} (h : Vec p n x) (hw : wtN x = 0) : x = zv n := by
  unfold wtN at hw
  have hw := List.eq_nil_of_length_eq_zero hw
  rw [List.filter_eq_nil_iff] at hw
  refine List.eq_replicate_iff.mpr ⟨h.1, fun z hz => ?_⟩
  have := hw z hz
  simpa using this
theorem wtN_zv {n : Nat} : wtN (zv n) = 0 := by
  unfold wtN zv
  rw [List.length_eq_zero_iff, List.filter_eq_nil_iff]
  intro z hz
  rw [List.eq_of_mem_replicate hz]; simp
theorem cnt_zero {p : Int} {n : Nat} {W : List (List Int)} (C : IsCode p n W) : cnt wtN W 0 = 1 := by
  unfold cnt
  have e := lsum_count (P := fun x => decide (wtN x = 0)) (l := W)
  simp only [decide_eq_true_eq] at e
  rw [e]
  have h1 : (W.filter fun x => decide (wtN x = 0)).length ≤ [zv n].length := inj_len (φ := fun x => x) (C.nd.filter _) (fun x hx => by
    obtain ⟨hx, hz⟩ := List.mem_filter.mp hx
    rw [List.mem_singleton]
    exact wtN_zero (C.vec x hx) (of_decide_eq_true hz)) fun x _ y _ e => e
  have h2 : zv n ∈ W.filter fun x => decide (wtN x = 0) := List.mem_filter.mpr ⟨C.zero, decide_eq_true wtN_zv⟩
  have h3 := List.length_pos_of_mem h2
  have h1 : (W.filter fun x => decide (wtN x = 0)).length ≤ 1 := h1
  omega
theorem nums_sum {n : Nat} {W : List (List Int)} (h : ∀ x ∈ W, x.length = n) : (nums n W).sum = (W.length : Int) := by
  unfold nums
  rw [sum_range]
  exact sm_cnt1 fun x hx => by have := wtN_le x; have := h x hx; omega
theorem nums_nn {n : Nat} {W : List (List Int)} : ∀ z ∈ nums n W, 0 ≤ z := fun z hz => by
  obtain ⟨i, _, rfl⟩ := List.mem_map.mp hz
  exact cnt_nonneg
section
variable {s : Int × Nat} {W : List (List Int)}
abbrev dualOf (s : Int × Nat) (W : List (List Int)) : List (List Int) := (allW s.1 s.2).filter (perp s.1 s.2 W)
theorem dual_vec (hs : s ∈ shapes) : ∀ x ∈ dualOf s W, Vec s.1 s.2 x := fun x hx => (all_ok hs).2.1 x (List.mem_filter.mp hx).1
theorem wt_lt (h : ∀ x ∈ W, Vec s.1 s.2 x) : ∀ x ∈ W, wtN x < s.2 + 1 := fun x hx => by have := wtN_le x; have := (h x hx).1; omega
theorem turn1 (hs : s ∈ shapes) (C : IsCode s.1 s.2 W) {j : Nat} (hj : j < s.2 + 1) : sm (fun i => cnt wtN W i * krP s.1 s.2 j i) (s.2 + 1) = (W.length : Int) * cnt wtN (dualOf s W) j :=
  C.turn (sp hs).1 (wt_lt C.vec) fun x hx => sums_ok hs (mem_all (C.vec x hx)) hj
theorem tot_nums {V : List (List Int)} {j : Nat} : tot s (nums s.2 V) j = sm (fun i => cnt wtN V i * krP s.1 s.2 j i) (s.2 + 1) := sm_congr' fun i hi => by rw [cd_nums hi]
theorem one_nums (hs : s ∈ shapes) (C : IsCode s.1 s.2 W) (hl : W.length ≤ 1000000) : Nums s (nums s.2 W) := by
  have e := nums_sum fun x hx => (C.vec x hx).1
  have := List.length_pos_of_mem C.zero
  exact ⟨nums_len, nums_nn, by rw [e]; omega, by rw [e]; omega⟩
theorem dual_zero (hs : s ∈ shapes) (C : IsCode s.1 s.2 W) : zv s.2 ∈ dualOf s W := by
  refine List.mem_filter.mpr ⟨mem_all (zv_vec (by have := (sp hs).2.1; omega)), ?_⟩
  unfold perp
  rw [List.all_eq_true]
  intro x hx
  rw [decide_eq_true_eq]
  have : dotP s.2 x (zv s.2) = 0 := (sm_congr' fun i _ => by rw [cd_zv, Int.mul_zero]).trans sm_zero
  rw [this]; simp
theorem two_nums (hs : s ∈ shapes) (C : IsCode s.1 s.2 W) : Nums s (nums s.2 (dualOf s W)) := by
  have e := nums_sum fun x hx => (dual_vec (W := W) hs x hx).1
  have h1 := List.length_pos_of_mem (dual_zero hs C)
  have h2 := (all_ok hs).2.2
  have h3 : (dualOf s W).length ≤ (allW s.1 s.2).length := List.length_filter_le ..
  exact ⟨nums_len, nums_nn, by rw [e]; omega, by rw [e]; omega⟩
theorem ans_one (hs : s ∈ shapes) (C : IsCode s.1 s.2 W) (hl : W.length ≤ 1000000) : ans s (nums s.2 W) = .inl (nums s.2 (dualOf s W)) := by
  have N := one_nums hs C hl
  unfold ans
  rw [goF_all (B := cnt wtN (dualOf s W)) N.pos fun j hj => by
    rw [tot_nums, turn1 hs C (List.mem_range.mp hj), nums_sum fun x hx => (C.vec x hx).1]]
  rfl
theorem swap3 (hs : s ∈ shapes) (C : IsCode s.1 s.2 W) (c : Nat → Int) : (W.length : Int) * sm (fun j => cnt wtN (dualOf s W) j * c j) (s.2 + 1) = sm (fun l => cnt wtN W l * sm (fun j => krP s.1 s.2 j l * c j) (s.2 + 1)) (s.2 + 1) := by
  rw [← sm_mulL]
  have e1 : sm (fun j => (W.length : Int) * (cnt wtN (dualOf s W) j * c j)) (s.2 + 1) = sm (fun j => sm (fun l => cnt wtN W l * (krP s.1 s.2 j l * c j)) (s.2 + 1)) (s.2 + 1) := sm_congr' fun j hj => by
    rw [← Int.mul_assoc, ← turn1 hs C hj, ← sm_mul]
    exact sm_congr' fun l _ => by rw [Int.mul_assoc]
  rw [e1, sm_swap]
  exact sm_congr' fun l _ => sm_mulL
theorem len_mul (hs : s ∈ shapes) (C : IsCode s.1 s.2 W) {i : Nat} (hi : i < s.2 + 1) : (W.length : Int) * tot s (nums s.2 (dualOf s W)) i = cnt wtN W i * s.1 ^ s.2 := by
  rw [tot_nums, swap3 hs C (krP s.1 s.2 i)]
  have e : sm (fun l => cnt wtN W l * sm (fun j => krP s.1 s.2 j l * krP s.1 s.2 i j) (s.2 + 1)) (s.2 + 1) = sm (fun l => if l = i then cnt wtN W l * s.1 ^ s.2 else 0) (s.2 + 1) := sm_congr' fun l hl => by
    rw [(kk_ok hs hi hl).2.1]
    split <;> simp
  rw [e, sm_single (j := i) hi fun l _ hn => if_neg hn, if_pos rfl]
theorem ans_two (hs : s ∈ shapes) (C : IsCode s.1 s.2 W) (hl : W.length ≤ 1000000) : ans s (nums s.2 (dualOf s W)) = .inl (nums s.2 W) := by
  have N := two_nums hs C
  have hW := List.length_pos_of_mem C.zero
  have e0 : (W.length : Int) * ((dualOf s W).length : Int) = s.1 ^ s.2 := by
    have h := len_mul hs C (i := 0) (by omega)
    rw [cnt_zero C, Int.one_mul] at h
    rw [← h]
    congr 1
    rw [tot_nums, sm_cnt (wt_lt (dual_vec (W := W) hs)), lsum_congr (g := fun _ => 1) fun x hx => (kk_ok hs (wt_lt (dual_vec (W := W) hs) x hx) (l := 0) (by omega)).1, lsum_const]
    omega
  unfold ans
  rw [goF_all (B := cnt wtN W) N.pos fun i hi => by
    have hi := List.mem_range.mp hi
    rw [nums_sum fun x hx => (dual_vec (W := W) hs x hx).1]
    have h := len_mul hs C hi
    rw [← e0] at h
    have h : (W.length : Int) * tot s (nums s.2 (dualOf s W)) i = (W.length : Int) * (((dualOf s W).length : Int) * cnt wtN W i) := by
      rw [h, Int.mul_comm, Int.mul_assoc]
    exact Int.eq_of_mul_eq_mul_left (by omega) h]
  rfl
def mom (n t : Nat) (v : List Int) : Int := sm (fun i => binom (n - i) t * cd v i) (n + 1)
theorem mom_nums {n t : Nat} {V : List (List Int)} : mom n t (nums n V) = sm (fun i => cnt wtN V i * binom (n - i) t) (n + 1) := sm_congr' fun i hi => by rw [cd_nums hi, Int.mul_comm]
theorem mom_pairs (hs : s ∈ shapes) (C : IsCode s.1 s.2 W) {t : Nat} (ht : t < s.2 + 1) : mom s.2 t (nums s.2 W) = lsum (fun x => (((placS s.2 t).filter (zerosOn x)).length : Int)) W := by
  rw [mom_nums, sm_cnt (wt_lt C.vec)]
  exact lsum_congr fun x hx => (zeros_on hs (mem_all (C.vec x hx)) ht).symm
theorem mom_two (hs : s ∈ shapes) (C : IsCode s.1 s.2 W) {t : Nat} (ht : t < s.2 + 1) : mom s.2 t (nums s.2 W) * s.1 ^ t = (W.length : Int) * mom s.2 (s.2 - t) (nums s.2 (dualOf s W)) := by
  rw [mom_nums, mom_nums, swap3 hs C (fun j => binom (s.2 - j) (s.2 - t)), ← sm_mul]
  refine sm_congr' fun i hi => ?_
  have h := (kk_ok hs hi ht).2.2
  rw [sm_congr' (g := fun j => binom (s.2 - j) (s.2 - t) * krP s.1 s.2 j i) fun j _ => Int.mul_comm _ _, h, Int.mul_assoc, Int.mul_comm (binom _ _)]
end
end Law

set_option Elab.async false
set_option linter.all false
set_option maxRecDepth 100000
set_option maxHeartbeats 4000000
namespace Law
open PySem Mp
theorem d8 {α : Type} (a b c d e f g h : α) : tDisp [M.ok a, M.ok b, M.ok c, M.ok d, M.ok e, M.ok f, M.ok g, M.ok h] = M.ok [a, b, c, d, e, f, g, h] := (rfl)
theorem for_nx {α β : Type} {f : α → Unit → M (TO Unit β)} : ∀ {l : List α}, (∀ a ∈ l, f a () = M.ok (.nx ())) → tFor f l () = M.ok (.nx ())
  | [], _ => rfl
  | a :: l, h => by rw [tFor, h a (List.mem_cons_self ..), nf_bind]; exact for_nx fun b hb => h b (List.mem_cons_of_mem _ hb)
theorem pow_small {p : Int} {t : Nat} (hp : 1 < p) (hp2 : p < 10) (ht : t < 6) : small (p ^ t) = true := by
  have h : p = 2 ∨ p = 3 ∨ p = 4 ∨ p = 5 ∨ p = 6 ∨ p = 7 ∨ p = 8 ∨ p = 9 := by omega
  have h2 : t = 0 ∨ t = 1 ∨ t = 2 ∨ t = 3 ∨ t = 4 ∨ t = 5 := by omega
  rcases h with rfl | rfl | rfl | rfl | rfl | rfl | rfl | rfl <;> rcases h2 with rfl | rfl | rfl | rfl | rfl | rfl <;> decide
theorem changed_nums {s : Int × Nat} {v : List Int} (N : Nums s v) (hb : v.sum ≤ 1000000) {a : Nat} (ha : a < s.2 + 1) {z : Int} (h0 : 0 ≤ z) (h1 : z < 3) : Nums s (v.take a ++ [cd v a + 1 + z] ++ v.drop (a + 1)) := by
  have hl := N.len
  have g := cd_get (x := v) (k := a) (by omega)
  have e : v = v.take a ++ [cd v a] ++ v.drop (a + 1) := by
    have := List.take_append_drop (a + 1) v
    rw [List.take_succ, g] at this
    exact this.symm
  have hs : (v.take a ++ [cd v a + 1 + z] ++ v.drop (a + 1)).sum = v.sum + 1 + z := by
    have e2 := congrArg List.sum e
    simp only [List.sum_append, List.sum_cons, List.sum_nil] at e2 ⊢
    omega
  refine ⟨by simp; omega, fun y hy => ?_, by rw [hs]; have := N.pos; omega, by rw [hs]; omega⟩
  rcases List.mem_append.mp hy with hy | hy
  · rcases List.mem_append.mp hy with hy | hy
    · exact N.nn y (List.mem_of_mem_take hy)
    · rw [List.mem_singleton.mp hy]
      have := N.nn _ (List.mem_of_getElem? g)
      omega
  · exact N.nn y (List.mem_of_mem_drop hy)
theorem law_ok {rs : Rg} (hr : RgI rs) : ∃ rs', g_law rs = .ok true rs' := by
  obtain ⟨s, hs, r1, e1, h1⟩ := shape_ok hr
  obtain ⟨p1, p2, p3, p4⟩ := sp hs
  obtain ⟨R, r2, e2, h2, hR, hRl⟩ := rows_ok (p := s.1) (n := s.2) (by omega) (by omega) (m := 3) (by omega) h1
  have hpw : s.1.toNat ^ R.length ≤ 1000000 := by
    have h : s.1.toNat ^ R.length ≤ 10 ^ 3 := Nat.le_trans (Nat.pow_le_pow_left (by omega) _) (Nat.pow_le_pow_right (by decide) hRl)
    omega
  obtain ⟨W, C, _, hWl, _, e3⟩ := words_ok p1 (by omega) hR hpw
  obtain ⟨t, r3, e4, h3, t0, t1⟩ := next_ok (m := (s.2 : Int) + 1) (by omega) h2
  obtain ⟨t, rfl⟩ : ∃ k : Nat, t = (k : Int) := ⟨t.toNat, by omega⟩
  obtain ⟨a, r4, e5, h4, a0, a1⟩ := next_ok (m := (s.2 : Int) + 1) (by omega) h3
  obtain ⟨a, rfl⟩ : ∃ k : Nat, a = (k : Int) := ⟨a.toNat, by omega⟩
  obtain ⟨z, r5, e6, h5, z0, z1⟩ := next_ok (m := 3) (by decide) h4
  have N1 := one_nums hs C hWl
  have N2 := two_nums hs C
  have w1 := nums_sum fun x hx => (C.vec x hx).1
  have hlen := N1.len
  have hg := cd_get (x := nums s.2 W) (k := a) (by omega)
  have dv := dual_vec (W := W) hs
  obtain ⟨q1, q2, q3⟩ := places_ok (n := s.2) (t := t) (by omega) (by omega)
  refine ⟨r5, ?_⟩
  unfold g_law
  rw [nf_B1, run_bind e1]
  dsimp only
  have f1 : tB3 g__law_words (M.ok s.1) (M.ok (s.2 : Int)) (tB4 g__law_rows (M.ok ()) (M.ok s.1) (M.ok (s.2 : Int)) (M.ok 3)) r1 = .ok W r2 := by
    refine (bind_ok' (m := M.ok s.1) rfl).trans ((bind_ok' (m := M.ok (s.2 : Int)) rfl).trans ((bind_ok' (m := tB4 g__law_rows (M.ok ()) (M.ok s.1) (M.ok (s.2 : Int)) (M.ok 3)) e2).trans ?_))
    rw [e3]; rfl
  rw [run_bind f1, nf_B3, dual_ok hs C.vec hWl, nf_bind, nf_B2, numbers_of_ok (by omega) (fun x hx => (C.vec x hx).1), nf_bind, nf_B2, numbers_of_ok (by omega) (fun x hx => (dv x hx).1), nf_bind]
  have o1 : tB2 oNe (tB3 g__law_told (M.ok s.1) (M.ok (s.2 : Int)) (tDyn (eT D.int) (M.ok (nums s.2 W)))) (tInl Str (M.ok (nums s.2 (dualOf s W)))) = M.ok false := by
    rw [nf_dyn, nf_B3, told_ok hs N1, ans_one hs C hWl]
    show oNe _ _ = _
    rw [nf_ne]; simp
  have o2 : tB2 oNe (tB3 g__law_told (M.ok s.1) (M.ok (s.2 : Int)) (tDyn (eT D.int) (M.ok (nums s.2 (dualOf s W))))) (tInl Str (M.ok (nums s.2 W))) = M.ok false := by
    rw [nf_dyn, nf_B3, told_ok hs N2, ans_two hs C hWl]
    show oNe _ _ = _
    rw [nf_ne]; simp
  rw [o1, o2, nf_or, if_neg (by simp), nf_if, if_neg (by simp)]
  have f2 : tB2 g__law_next (M.ok ()) (tB2 oAdd (M.ok (s.2 : Int)) (M.ok 1)) r2 = .ok (t : Int) r3 := e4
  rw [run_bind f2]
  have ht : t < s.2 + 1 := by omega
  have mo := moment_ok (n := s.2) (t := t) (v := nums s.2 W) (by omega) (by omega) hlen
  have o3 : tB2 oNe (tB2 g_binomial_moment (M.ok (nums s.2 W)) (M.ok (t : Int))) (tB2 g__law_zero_pairs (M.ok W) (tB2 g__law_places (M.ok (s.2 : Int)) (M.ok (t : Int)))) = M.ok false := by
    rw [nf_B2, mo, nf_B2, q1, nf_B2, pairs_ok (fun x hx => (C.vec x hx).1) q2 (fun q hq => by
      have : q.length = t := by
        have := (List.mem_filter.mp hq).2
        rw [decide_eq_true_eq] at this
        omega
      omega), nf_B2, nf_ne]
    have := mom_pairs hs C ht
    unfold mom at this
    rw [this]; simp
  rw [o3, nf_if, if_neg (by simp), nf_bind, nf_B1, nf_rng1 (by omega), nf_bind]
  have pw : tForS (fun x9 (s8 : Int) => (M.bind (tB2 oMul (M.ok s8) (M.ok s.1)) fun power10 => (M.ok power10))) ((List.range t).map fun (k : Nat) => (k : Int)) 1 = M.ok (s.1 ^ t) := by
    obtain ⟨s', b1, b2⟩ := nf_forI (f := fun x9 (s8 : Int) => (M.bind (tB2 oMul (M.ok s8) (M.ok s.1)) fun power10 => (M.ok power10))) (fun i (c : Int) => c = s.1 ^ i) (l := (List.range t).map fun (k : Nat) => (k : Int)) (s := 1) 0 (Int.pow_zero _).symm (fun j _ c _ hc => ⟨s.1 ^ (0 + j + 1), by
      rw [nf_B2, nf_mul (.inr (small_of (by omega) (by omega))), nf_bind, hc, Int.pow_succ], rfl⟩)
    rw [b1, b2]; simp
  rw [pw, nf_bind]
  have m2 := moment_ok (n := s.2) (t := s.2 - t) (v := nums s.2 (dualOf s W)) (by omega) (by omega) N2.len
  have o4 : tB2 oNe (tB2 oMul (tB2 g_binomial_moment (M.ok (nums s.2 W)) (M.ok (t : Int))) (M.ok (s.1 ^ t))) (tB2 oMul (tB1 oLen (M.ok W)) (tB2 g_binomial_moment (M.ok (nums s.2 (dualOf s W))) (tB2 oSub (M.ok (s.2 : Int)) (M.ok (t : Int))))) = M.ok false := by
    rw [nf_B2 (f := oSub), nf_sub, show (s.2 : Int) - (t : Int) = ((s.2 - t : Nat) : Int) by omega, nf_B2 (f := g_binomial_moment), nf_B2 (f := g_binomial_moment), mo, m2, nf_B2, nf_mul (.inr (pow_small p2 p3 (by omega))), nf_B1, nf_len, nf_B2, nf_mul (.inl (small_of (by omega) (by omega))), nf_B2, nf_ne]
    have := mom_two hs C ht
    unfold mom at this
    rw [this]; simp
  rw [o4, nf_if, if_neg (by simp)]
  have f3 : tB2 g__law_next (M.ok ()) (tB2 oAdd (M.ok (s.2 : Int)) (M.ok 1)) r3 = .ok (a : Int) r4 := e5
  rw [run_bind f3]
  have ha : a < s.2 + 1 := by omega
  have f4 : tB2 oCat (tB2 oCat (tSl oCut (M.ok (nums s.2 W)) (M.ok none) (tSome (M.ok (a : Int)))) (tDisp [(tB2 oAdd (tB2 oAdd (tB2 oIx (M.ok (nums s.2 W)) (M.ok (a : Int))) (M.ok 1)) (tB2 g__law_next (M.ok ()) (M.ok 3)))])) (tSl oCut (M.ok (nums s.2 W)) (tSome (tB2 oAdd (M.ok (a : Int)) (M.ok 1))) (M.ok none)) r4 =
      .ok ((nums s.2 W).take a ++ [cd (nums s.2 W) a + 1 + z] ++ (nums s.2 W).drop (a + 1)) r5 := by
    have g1 : tDisp [(tB2 oAdd (tB2 oAdd (tB2 oIx (M.ok (nums s.2 W)) (M.ok (a : Int))) (M.ok 1)) (tB2 g__law_next (M.ok ()) (M.ok 3)))] r4 = .ok [cd (nums s.2 W) a + 1 + z] r5 := by
      rw [nf_B2 (f := oIx), nf_ix hg, nf_B2, nf_add]
      have g0 : tB2 oAdd (M.ok (cd (nums s.2 W) a + 1)) (tB2 g__law_next (M.ok ()) (M.ok 3)) r4 = .ok (cd (nums s.2 W) a + 1 + z) r5 :=
        (bind_ok' (m := M.ok (cd (nums s.2 W) a + 1)) rfl).trans ((bind_ok' (m := tB2 g__law_next (M.ok ()) (M.ok 3)) e6).trans rfl)
      unfold tDisp tListOf
      rw [Mp.bind_assoc, run_bind g0]
      rfl
    have g2 : tB2 oCat (tSl oCut (M.ok (nums s.2 W)) (M.ok none) (tSome (M.ok (a : Int)))) (tDisp [(tB2 oAdd (tB2 oAdd (tB2 oIx (M.ok (nums s.2 W)) (M.ok (a : Int))) (M.ok 1)) (tB2 g__law_next (M.ok ()) (M.ok 3)))]) r4 = .ok ((nums s.2 W).take a ++ [cd (nums s.2 W) a + 1 + z]) r5 := by
      rw [nf_some, nf_sl, nf_cut, cut_to (by omega)]
      refine (bind_ok' (m := M.ok _) rfl).trans ((bind_ok' g1).trans ?_)
      rw [nf_cat (by simp; unfold lim; omega)]; rfl
    refine (bind_ok' g2).trans ?_
    rw [nf_B2, nf_add, nf_some, nf_sl, nf_cut, show (a : Int) + 1 = ((a + 1 : Nat) : Int) by omega, cut_from (by omega), nf_bind, nf_cat (by simp; unfold lim; omega)]
    rfl
  rw [run_bind f4]
  have N3 := changed_nums N1 (by rw [w1]; omega) ha z0 z1
  generalize (nums s.2 W).take a ++ [cd (nums s.2 W) a + 1 + z] ++ (nums s.2 W).drop (a + 1) = V at N3 ⊢
  have o5 : tB2 oNe (tB3 g__law_told (M.ok s.1) (M.ok (s.2 : Int)) (tDyn (eT D.int) (M.ok V))) (tB3 g__law_due (M.ok s.1) (M.ok (s.2 : Int)) (M.ok V)) = M.ok false := by
    rw [nf_dyn, nf_B3, nf_B3, told_ok hs N3, due_ok hs N3, nf_B2, nf_ne]; simp
  rw [o5, nf_if, if_neg (by simp), nf_B2, nf_add, show ((s.2 : Int) + 1) = ((s.2 + 1 : Nat) : Int) by omega, nf_B1, nf_rng1 (by omega), nf_comp (fun _ => (0 : Int)) (by rw [List.length_map, List.length_range]; unfold lim; omega) (fun x _ => rfl), nf_B1, nf_bind]
  have k1 : tB2 oCat (M.ok (nums s.2 W)) (tDisp [(M.ok (0 : Int))]) = M.ok (nums s.2 W ++ [0]) := by rw [nf_d1, nf_B2, nf_cat (by simp [hlen]; unfold lim; omega)]
  have k2 : tSl oCut (M.ok (nums s.2 W)) (tSome (M.ok 1)) (M.ok none) = M.ok ((nums s.2 W).drop 1) := by rw [nf_some, nf_sl, nf_cut]; exact congrArg M.ok (cut_from (a := 1) (by omega))
  have k3 : tB2 oCat (tDisp [(tB1 oNeg (M.ok 1))]) (M.ok ((nums s.2 W).drop 1)) = M.ok (-1 :: (nums s.2 W).drop 1) := by rw [nf_B1, nf_neg, nf_d1, nf_B2, nf_cat (by simp [hlen]; unfold lim; omega)]; rfl
  have k4 : tB2 oCat (tDynT D.bl (tDisp [(M.ok true)])) (tDynT D.int (M.ok ((nums s.2 W).drop 1))) = M.ok (D.bl true :: ((nums s.2 W).drop 1).map D.int) := by
    show oCat [D.bl true] (((nums s.2 W).drop 1).map D.int) = _
    rw [nf_cat (by simp [hlen]; unfold lim; omega)]; rfl
  have k5 : tB2 oCat (tDynT eU (tDisp [(M.ok ())])) (tDynT D.int (M.ok ((nums s.2 W).drop 1))) = M.ok (D.non :: ((nums s.2 W).drop 1).map D.int) := by
    show oCat [D.non] (((nums s.2 W).drop 1).map D.int) = _
    rw [nf_cat (by simp [hlen]; unfold lim; omega)]; rfl
  rw [k1, k2, k3, k4, k5, nf_B1]
  simp only [nf_dyn]
  rw [d8, nf_bind]
  have hd1 : ((nums s.2 W).drop 1).length = s.2 := by rw [List.length_drop, hlen]; omega
  rw [for_nx fun d hd => ?_]
  · rfl
  · have bad : g_is_numbers (s.2 : Int) d = M.ok false := by
      simp only [List.mem_cons, List.not_mem_nil, or_false] at hd
      rcases hd with rfl | rfl | rfl | rfl | rfl | rfl | rfl | rfl
      · exact numbers_bad1 (by simp [hlen])
      · exact numbers_bad1 (by rw [List.length_map, hd1]; omega)
      · unfold g_is_numbers; rfl
      · unfold g_is_numbers; rfl
      · refine (numbers_sum (by simp) (by omega) (fun z hz => ?_)).trans ?_
        · obtain ⟨_, _, rfl⟩ := List.mem_map.mp hz; exact Int.le_refl _
        · congr 1
          rw [decide_eq_false]
          rw [lsum_sum, lsum_zero]
          omega
      · exact numbers_bad2 (by simp [hlen]) (by omega) flat_ints rfl
      · exact numbers_bad2 (ds := List.map id (D.bl true :: ((nums s.2 W).drop 1).map D.int)) (by simp [hlen]) (by omega) (fun d hd => by
          rw [List.map_id] at hd
          rcases List.mem_cons.mp hd with rfl | hd
          · rfl
          · exact flat_ints d hd) rfl
      · exact numbers_bad2 (ds := List.map id (D.non :: ((nums s.2 W).drop 1).map D.int)) (by simp [hlen]) (by omega) (fun d hd => by
          rw [List.map_id] at hd
          rcases List.mem_cons.mp hd with rfl | hd
          · rfl
          · exact flat_ints d hd) rfl
    rw [nf_B3, told_bad bad]
    show tIf (oNe (Sum.inr "malformed" : List Int ⊕ Str) (Sum.inr "malformed")) _ _ = _
    rw [nf_ne, nf_if]; simp
theorem pureLaw : PureLaw := pure_of fun ns hn => by
  obtain ⟨ls, h1⟩ := numbers_ok ns hn
  obtain ⟨rs', h2⟩ := law_ok ⟨ls, rfl⟩
  exact ⟨ls, rs', h1, h2⟩
end Law

set_option Elab.async false
set_option linter.all false
set_option maxRecDepth 100000
set_option maxHeartbeats 4000000
namespace Law
open PySem PySem.Spec L2 Mp
def topS (i : Nat) : Stmt := PySem.Challenge.pw_weightkeepers_k16_whole_macwilliams_iden.main.body.getD i (.Pass ⟨0, 0, 0, 0⟩)
def n0 : List Str := ["value"]
def p0 : List Str := ["value"]
theorem sc0 : scB n0 p0 (defScope (topS 5)) = true := by decide +kernel
theorem ck0 : isSs T n0 (defScope (topS 5)) (b_is_integer) (defBody (topS 5)) = true := by decide +kernel
def n1 : List Str := ["n", "k", "total", "i"]
def p1 : List Str := ["n", "k"]
theorem sc1 : scB n1 p1 (defScope (topS 6)) = true := by decide +kernel
theorem ck1 : isSs T n1 (defScope (topS 6)) (b_binomial) (defBody (topS 6)) = true := by decide +kernel
def n2 : List Str := ["p", "n", "j", "i", "total", "s", "share", "_"]
def p2 : List Str := ["p", "n", "j", "i"]
theorem sc2 : scB n2 p2 (defScope (topS 8)) = true := by decide +kernel
theorem ck2 : isSs T n2 (defScope (topS 8)) (b_krawtchouk 1) (defBody (topS 8)) = true := by decide +kernel
def n3 : List Str := ["n", "numbers", "a"]
def p3 : List Str := ["n", "numbers"]
theorem sc3 : scB n3 p3 (defScope (topS 9)) = true := by decide +kernel
theorem ck3 : isSs T n3 (defScope (topS 9)) (b_is_numbers 0) (defBody (topS 9)) = true := by decide +kernel
def n4 : List Str := ["p", "n", "numbers", "whole", "found", "j", "total", "i"]
def p4 : List Str := ["p", "n", "numbers"]
theorem sc4 : scB n4 p4 (defScope (topS 10)) = true := by decide +kernel
theorem ck4 : isSs T n4 (defScope (topS 10)) (b_macwilliams 3 2) (defBody (topS 10)) = true := by decide +kernel
def n5 : List Str := ["numbers", "s", "n", "i"]
def p5 : List Str := ["numbers", "s"]
theorem sc5 : scB n5 p5 (defScope (topS 11)) = true := by decide +kernel
theorem ck5 : isSs T n5 (defScope (topS 11)) (b_binomial_moment 1) (defBody (topS 11)) = true := by decide +kernel
def n6 : List Str := ["_law_script", "_law_found", "_law_k", "_law_cell", "_law_turn", "_law_i", "_law_mixed"]
def p6 : List Str := ["_law_script"]
theorem sc6 : scB n6 p6 (defScope (topS 13)) = true := by decide +kernel
theorem ck6 : isSs T n6 (defScope (topS 13)) (b__law_numbers) (defBody (topS 13)) = true := by decide +kernel
def n7 : List Str := ["_law_numbers_here", "_law_many"]
def p7 : List Str := ["_law_numbers_here", "_law_many"]
theorem sc7 : scB n7 p7 (defScope (topS 14)) = true := by decide +kernel
theorem ck7 : isSs T n7 (defScope (topS 14)) (b__law_next) (defBody (topS 14)) = true := by decide +kernel
def n8 : List Str := ["_law_numbers_here", "_law_p", "_law_n", "_law_most", "_law_rows_here", "_law_turn", "_law_k"]
def p8 : List Str := ["_law_numbers_here", "_law_p", "_law_n", "_law_most"]
theorem sc8 : scB n8 p8 (defScope (topS 15)) = true := by decide +kernel
theorem ck8 : isSs T n8 (defScope (topS 15)) (b__law_rows 7) (defBody (topS 15)) = true := by decide +kernel
def n9 : List Str := ["_law_p", "_law_n", "_law_rows_here", "_law_found", "_law_row", "_law_wider", "_law_word", "_law_c", "_law_k"]
def p9 : List Str := ["_law_p", "_law_n", "_law_rows_here"]
theorem sc9 : scB n9 p9 (defScope (topS 16)) = true := by decide +kernel
theorem ck9 : isSs T n9 (defScope (topS 16)) (b__law_words) (defBody (topS 16)) = true := by decide +kernel
def n10 : List Str := ["_law_word", "_law_x"]
def p10 : List Str := ["_law_word"]
theorem sc10 : scB n10 p10 (defScope (topS 17)) = true := by decide +kernel
theorem ck10 : isSs T n10 (defScope (topS 17)) (b__law_weight) (defBody (topS 17)) = true := by decide +kernel
def n11 : List Str := ["_law_p", "_law_n", "_law_found", "_law_turn", "_law_longer", "_law_word", "_law_x"]
def p11 : List Str := ["_law_p", "_law_n"]
theorem sc11 : scB n11 p11 (defScope (topS 18)) = true := by decide +kernel
theorem ck11 : isSs T n11 (defScope (topS 18)) (b__law_all) (defBody (topS 18)) = true := by decide +kernel
def n12 : List Str := ["_law_words_here", "_law_n", "_law_found", "_law_word", "_law_k"]
def p12 : List Str := ["_law_words_here", "_law_n"]
theorem sc12 : scB n12 p12 (defScope (topS 19)) = true := by decide +kernel
theorem ck12 : isSs T n12 (defScope (topS 19)) (b__law_numbers_of 10) (defBody (topS 19)) = true := by decide +kernel
def n13 : List Str := ["_law_numbers_here", "_law_p", "_law_n"]
def p13 : List Str := ["_law_numbers_here"]
theorem sc13 : scB n13 p13 (defScope (topS 20)) = true := by decide +kernel
theorem ck13 : isSs T n13 (defScope (topS 20)) (b__law_shape 7) (defBody (topS 20)) = true := by decide +kernel
def n14 : List Str := ["_law_p", "_law_n", "_law_words_here", "_law_found", "_law_y", "_law_x", "_law_k"]
def p14 : List Str := ["_law_p", "_law_n", "_law_words_here"]
theorem sc14 : scB n14 p14 (defScope (topS 21)) = true := by decide +kernel
theorem ck14 : isSs T n14 (defScope (topS 21)) (b__law_dual 11) (defBody (topS 21)) = true := by decide +kernel
def n15 : List Str := ["_law_n", "_law_s", "_law_found", "_law_k", "_law_places_here"]
def p15 : List Str := ["_law_n", "_law_s"]
theorem sc15 : scB n15 p15 (defScope (topS 22)) = true := by decide +kernel
theorem ck15 : isSs T n15 (defScope (topS 22)) (b__law_places) (defBody (topS 22)) = true := by decide +kernel
def n16 : List Str := ["_law_words_here", "_law_places_here", "_law_total", "_law_word", "_law_chosen", "_law_k"]
def p16 : List Str := ["_law_words_here", "_law_places_here"]
theorem sc16 : scB n16 p16 (defScope (topS 23)) = true := by decide +kernel
theorem ck16 : isSs T n16 (defScope (topS 23)) (b__law_zero_pairs) (defBody (topS 23)) = true := by decide +kernel
def n17 : List Str := ["_law_p", "_law_n", "_law_numbers_here", "e"]
def p17 : List Str := ["_law_p", "_law_n", "_law_numbers_here"]
theorem sc17 : scB n17 p17 (defScope (topS 24)) = true := by decide +kernel
theorem ck17 : isSs T n17 (defScope (topS 24)) (b__law_told 4) (defBody (topS 24)) = true := by decide +kernel
def n18 : List Str := ["_law_p", "_law_n", "_law_words_here", "_law_table", "_law_i", "_law_x", "_law_row", "_law_y", "_law_c", "_law_j", "_law_k"]
def p18 : List Str := ["_law_p", "_law_n"]
theorem sc18 : scB n18 p18 (defScope (topS 25)) = true := by decide +kernel
theorem ck18 : isSs T n18 (defScope (topS 25)) (b__law_turning 11 10) (defBody (topS 25)) = true := by decide +kernel
def n19 : List Str := ["_law_p", "_law_n", "_law_numbers_here", "_law_table", "_law_found", "_law_j", "_law_total", "_law_i"]
def p19 : List Str := ["_law_p", "_law_n", "_law_numbers_here"]
theorem sc19 : scB n19 p19 (defScope (topS 26)) = true := by decide +kernel
theorem ck19 : isSs T n19 (defScope (topS 26)) (b__law_due 18) (defBody (topS 26)) = true := by decide +kernel
def nLaw : List Str := ["_law_script", "_law_numbers_here", "_law_words_here", "_law_dual_here", "_law_one", "_law_two", "_law_s", "_law_power", "_law_turn", "_law_at", "_law_changed", "_law_zeros", "_law_bad", "_law_p", "_law_n", "_law_k"]
def pLaw : Str := "_law_script"
theorem scL : scB nLaw [pLaw] (defScope (topS 27)) = true := by decide +kernel
theorem ckL : isS T nLaw (defScope (topS 27)) (.set 1 (.call 6 (.cons (.slot 0) .nil))) (defBody (topS 27)).head! = true ∧ isSs T nLaw (defScope (topS 27)) (b_law 13 8 9 14 12 17 7 5 15 16 19) (defBody (topS 27)).tail = true ∧ (defBody (topS 27)).isEmpty = false := by decide +kernel
def memS (i j : Nat) : Stmt := match topS i with | .ClassDef _ _ _ b _ _ _ _ _ _ _ => b.getD j (.Pass ⟨0, 0, 0, 0⟩) | s => s
def xcF (e1 e2 : Addr) : Nat → Option (Addr × Option Str) := fun c => match c with | 1 => some (e1, xfd 1) | 2 => some (e2, xfd 2) | _ => none
abbrev B (K : PySem.W.Frag) (e1 e2 : Addr) : Bd := ⟨K, fun _ => none, xcF e1 e2⟩
theorem head_tail {l : List Stmt} (h : l.isEmpty = false) : l = l.head! :: l.tail := by cases l <;> first | rfl | cases h
set_option maxHeartbeats 8000000 in
theorem all_mk {w : World} {K : PySem.W.Frag} {h : Heap} {mg : Str → Option Value} {fa f0 f1 f2 f3 f4 f5 f6 f7 f8 f9 f10 f11 f12 f13 f14 f15 f16 f17 f18 f19 f20 : Addr} (X : K.In h) (G : h.Ns mainGlobals mg) (hfa : mg "law" = some (.ref fa))
    {od0 od1 od2 od3 od4 od5 od6 od7 od8 od9 od10 od11 od12 od13 od14 od15 od16 od17 od18 od19 od20 an0 an1 an2 an3 an4 an5 an6 an7 an8 an9 an10 an11 an12 an13 an14 an15 an16 an17 an18 an19 an20 : Option Addr} {sl0 sl1 sl2 sl3 sl4 sl5 sl6 sl7 sl8 sl9 sl10 sl11 sl12 sl13 sl14 sl15 sl16 sl17 sl18 sl19 sl20 : Array (Option Value)} {oc0 oc1 oc2 oc3 oc4 oc5 oc6 oc7 oc8 oc9 oc10 oc11 oc12 oc13 oc14 oc15 oc16 oc17 oc18 oc19 oc20 kV0 kV1 kV2 kV3 kV4 kV5 kV6 kV7 kV8 kV9 kV10 kV11 kV12 kV13 kV14 kV15 kV16 kV17 kV18 kV19 kV20 dc0 dc1 dc2 dc3 dc4 dc5 dc6 dc7 dc8 dc9 dc10 dc11 dc12 dc13 dc14 dc15 dc16 dc17 dc18 dc19 dc20 pm0 pm1 pm2 pm3 pm4 pm5 pm6 pm7 pm8 pm9 pm10 pm11 pm12 pm13 pm14 pm15 pm16 pm17 pm18 pm19 pm20 cd0 cd1 cd2 cd3 cd4 cd5 cd6 cd7 cd8 cd9 cd10 cd11 cd12 cd13 cd14 cd15 cd16 cd17 cd18 cd19 cd20 ct0 ct1 ct2 ct3 ct4 ct5 ct6 ct7 ct8 ct9 ct10 ct11 ct12 ct13 ct14 ct15 ct16 ct17 ct18 ct19 ct20 : Value}
    (a0 : PySem.W.nsIn K mainGlobals "is_integer" = some (some (.ref f0))) (l0 : K.lookup f0 = some ⟨oc0, od0, .func (PySem.W.fnOf "is_integer" "is_integer" (defArgs (topS 5)) (defBody (topS 5)) (defScope (topS 5)) .none kV0 dc0 pm0 an0 cd0 ct0), sl0⟩) (c0 : PySem.W.codeIn K cd0 "is_integer" = true) (k0 : PySem.W.keepIn K (.ref f0) = true)
    (a1 : PySem.W.nsIn K mainGlobals "binomial" = some (some (.ref f1))) (l1 : K.lookup f1 = some ⟨oc1, od1, .func (PySem.W.fnOf "binomial" "binomial" (defArgs (topS 6)) (defBody (topS 6)) (defScope (topS 6)) .none kV1 dc1 pm1 an1 cd1 ct1), sl1⟩) (c1 : PySem.W.codeIn K cd1 "binomial" = true) (k1 : PySem.W.keepIn K (.ref f1) = true)
    (a2 : PySem.W.nsIn K mainGlobals "krawtchouk" = some (some (.ref f2))) (l2 : K.lookup f2 = some ⟨oc2, od2, .func (PySem.W.fnOf "krawtchouk" "krawtchouk" (defArgs (topS 8)) (defBody (topS 8)) (defScope (topS 8)) .none kV2 dc2 pm2 an2 cd2 ct2), sl2⟩) (c2 : PySem.W.codeIn K cd2 "krawtchouk" = true) (k2 : PySem.W.keepIn K (.ref f2) = true)
    (a3 : PySem.W.nsIn K mainGlobals "is_numbers" = some (some (.ref f3))) (l3 : K.lookup f3 = some ⟨oc3, od3, .func (PySem.W.fnOf "is_numbers" "is_numbers" (defArgs (topS 9)) (defBody (topS 9)) (defScope (topS 9)) .none kV3 dc3 pm3 an3 cd3 ct3), sl3⟩) (c3 : PySem.W.codeIn K cd3 "is_numbers" = true) (k3 : PySem.W.keepIn K (.ref f3) = true)
    (a4 : PySem.W.nsIn K mainGlobals "macwilliams" = some (some (.ref f4))) (l4 : K.lookup f4 = some ⟨oc4, od4, .func (PySem.W.fnOf "macwilliams" "macwilliams" (defArgs (topS 10)) (defBody (topS 10)) (defScope (topS 10)) .none kV4 dc4 pm4 an4 cd4 ct4), sl4⟩) (c4 : PySem.W.codeIn K cd4 "macwilliams" = true) (k4 : PySem.W.keepIn K (.ref f4) = true)
    (a5 : PySem.W.nsIn K mainGlobals "binomial_moment" = some (some (.ref f5))) (l5 : K.lookup f5 = some ⟨oc5, od5, .func (PySem.W.fnOf "binomial_moment" "binomial_moment" (defArgs (topS 11)) (defBody (topS 11)) (defScope (topS 11)) .none kV5 dc5 pm5 an5 cd5 ct5), sl5⟩) (c5 : PySem.W.codeIn K cd5 "binomial_moment" = true) (k5 : PySem.W.keepIn K (.ref f5) = true)
    (a6 : PySem.W.nsIn K mainGlobals "_law_numbers" = some (some (.ref f6))) (l6 : K.lookup f6 = some ⟨oc6, od6, .func (PySem.W.fnOf "_law_numbers" "_law_numbers" (defArgs (topS 13)) (defBody (topS 13)) (defScope (topS 13)) .none kV6 dc6 pm6 an6 cd6 ct6), sl6⟩) (c6 : PySem.W.codeIn K cd6 "_law_numbers" = true) (k6 : PySem.W.keepIn K (.ref f6) = true)
    (a7 : PySem.W.nsIn K mainGlobals "_law_next" = some (some (.ref f7))) (l7 : K.lookup f7 = some ⟨oc7, od7, .func (PySem.W.fnOf "_law_next" "_law_next" (defArgs (topS 14)) (defBody (topS 14)) (defScope (topS 14)) .none kV7 dc7 pm7 an7 cd7 ct7), sl7⟩) (c7 : PySem.W.codeIn K cd7 "_law_next" = true) (k7 : PySem.W.keepIn K (.ref f7) = true)
    (a8 : PySem.W.nsIn K mainGlobals "_law_rows" = some (some (.ref f8))) (l8 : K.lookup f8 = some ⟨oc8, od8, .func (PySem.W.fnOf "_law_rows" "_law_rows" (defArgs (topS 15)) (defBody (topS 15)) (defScope (topS 15)) .none kV8 dc8 pm8 an8 cd8 ct8), sl8⟩) (c8 : PySem.W.codeIn K cd8 "_law_rows" = true) (k8 : PySem.W.keepIn K (.ref f8) = true)
    (a9 : PySem.W.nsIn K mainGlobals "_law_words" = some (some (.ref f9))) (l9 : K.lookup f9 = some ⟨oc9, od9, .func (PySem.W.fnOf "_law_words" "_law_words" (defArgs (topS 16)) (defBody (topS 16)) (defScope (topS 16)) .none kV9 dc9 pm9 an9 cd9 ct9), sl9⟩) (c9 : PySem.W.codeIn K cd9 "_law_words" = true) (k9 : PySem.W.keepIn K (.ref f9) = true)
    (a10 : PySem.W.nsIn K mainGlobals "_law_weight" = some (some (.ref f10))) (l10 : K.lookup f10 = some ⟨oc10, od10, .func (PySem.W.fnOf "_law_weight" "_law_weight" (defArgs (topS 17)) (defBody (topS 17)) (defScope (topS 17)) .none kV10 dc10 pm10 an10 cd10 ct10), sl10⟩) (c10 : PySem.W.codeIn K cd10 "_law_weight" = true) (k10 : PySem.W.keepIn K (.ref f10) = true)
    (a11 : PySem.W.nsIn K mainGlobals "_law_all" = some (some (.ref f11))) (l11 : K.lookup f11 = some ⟨oc11, od11, .func (PySem.W.fnOf "_law_all" "_law_all" (defArgs (topS 18)) (defBody (topS 18)) (defScope (topS 18)) .none kV11 dc11 pm11 an11 cd11 ct11), sl11⟩) (c11 : PySem.W.codeIn K cd11 "_law_all" = true) (k11 : PySem.W.keepIn K (.ref f11) = true)
    (a12 : PySem.W.nsIn K mainGlobals "_law_numbers_of" = some (some (.ref f12))) (l12 : K.lookup f12 = some ⟨oc12, od12, .func (PySem.W.fnOf "_law_numbers_of" "_law_numbers_of" (defArgs (topS 19)) (defBody (topS 19)) (defScope (topS 19)) .none kV12 dc12 pm12 an12 cd12 ct12), sl12⟩) (c12 : PySem.W.codeIn K cd12 "_law_numbers_of" = true) (k12 : PySem.W.keepIn K (.ref f12) = true)
    (a13 : PySem.W.nsIn K mainGlobals "_law_shape" = some (some (.ref f13))) (l13 : K.lookup f13 = some ⟨oc13, od13, .func (PySem.W.fnOf "_law_shape" "_law_shape" (defArgs (topS 20)) (defBody (topS 20)) (defScope (topS 20)) .none kV13 dc13 pm13 an13 cd13 ct13), sl13⟩) (c13 : PySem.W.codeIn K cd13 "_law_shape" = true) (k13 : PySem.W.keepIn K (.ref f13) = true)
    (a14 : PySem.W.nsIn K mainGlobals "_law_dual" = some (some (.ref f14))) (l14 : K.lookup f14 = some ⟨oc14, od14, .func (PySem.W.fnOf "_law_dual" "_law_dual" (defArgs (topS 21)) (defBody (topS 21)) (defScope (topS 21)) .none kV14 dc14 pm14 an14 cd14 ct14), sl14⟩) (c14 : PySem.W.codeIn K cd14 "_law_dual" = true) (k14 : PySem.W.keepIn K (.ref f14) = true)
    (a15 : PySem.W.nsIn K mainGlobals "_law_places" = some (some (.ref f15))) (l15 : K.lookup f15 = some ⟨oc15, od15, .func (PySem.W.fnOf "_law_places" "_law_places" (defArgs (topS 22)) (defBody (topS 22)) (defScope (topS 22)) .none kV15 dc15 pm15 an15 cd15 ct15), sl15⟩) (c15 : PySem.W.codeIn K cd15 "_law_places" = true) (k15 : PySem.W.keepIn K (.ref f15) = true)
    (a16 : PySem.W.nsIn K mainGlobals "_law_zero_pairs" = some (some (.ref f16))) (l16 : K.lookup f16 = some ⟨oc16, od16, .func (PySem.W.fnOf "_law_zero_pairs" "_law_zero_pairs" (defArgs (topS 23)) (defBody (topS 23)) (defScope (topS 23)) .none kV16 dc16 pm16 an16 cd16 ct16), sl16⟩) (c16 : PySem.W.codeIn K cd16 "_law_zero_pairs" = true) (k16 : PySem.W.keepIn K (.ref f16) = true)
    (a17 : PySem.W.nsIn K mainGlobals "_law_told" = some (some (.ref f17))) (l17 : K.lookup f17 = some ⟨oc17, od17, .func (PySem.W.fnOf "_law_told" "_law_told" (defArgs (topS 24)) (defBody (topS 24)) (defScope (topS 24)) .none kV17 dc17 pm17 an17 cd17 ct17), sl17⟩) (c17 : PySem.W.codeIn K cd17 "_law_told" = true) (k17 : PySem.W.keepIn K (.ref f17) = true)
    (a18 : PySem.W.nsIn K mainGlobals "_law_turning" = some (some (.ref f18))) (l18 : K.lookup f18 = some ⟨oc18, od18, .func (PySem.W.fnOf "_law_turning" "_law_turning" (defArgs (topS 25)) (defBody (topS 25)) (defScope (topS 25)) .none kV18 dc18 pm18 an18 cd18 ct18), sl18⟩) (c18 : PySem.W.codeIn K cd18 "_law_turning" = true) (k18 : PySem.W.keepIn K (.ref f18) = true)
    (a19 : PySem.W.nsIn K mainGlobals "_law_due" = some (some (.ref f19))) (l19 : K.lookup f19 = some ⟨oc19, od19, .func (PySem.W.fnOf "_law_due" "_law_due" (defArgs (topS 26)) (defBody (topS 26)) (defScope (topS 26)) .none kV19 dc19 pm19 an19 cd19 ct19), sl19⟩) (c19 : PySem.W.codeIn K cd19 "_law_due" = true) (k19 : PySem.W.keepIn K (.ref f19) = true)
    (a20 : PySem.W.nsIn K mainGlobals "law" = some (some (.ref f20))) (l20 : K.lookup f20 = some ⟨oc20, od20, .func (PySem.W.fnOf "law" "law" (defArgs (topS 27)) (defBody (topS 27)) (defScope (topS 27)) .none kV20 dc20 pm20 an20 cd20 ct20), sl20⟩) (c20 : PySem.W.codeIn K cd20 "law" = true) (k20 : PySem.W.keepIn K (.ref f20) = true)
    (z0 : PySem.W.nsIn K mainGlobals "len" = some none)
    (z1 : PySem.W.nsIn K mainGlobals "abs" = some none)
    (z2 : PySem.W.nsIn K mainGlobals "int" = some none)
    (z3 : PySem.W.nsIn K mainGlobals "str" = some none)
    (z4 : PySem.W.nsIn K mainGlobals "sum" = some none)
    (z5 : PySem.W.nsIn K mainGlobals "tuple" = some none)
    (z6 : PySem.W.nsIn K mainGlobals "list" = some none)
    (z7 : PySem.W.nsIn K mainGlobals "sorted" = some none)
    (z8 : PySem.W.nsIn K mainGlobals "max" = some none)
    (z9 : PySem.W.nsIn K mainGlobals "min" = some none)
    (z10 : PySem.W.nsIn K mainGlobals "all" = some none)
    (z11 : PySem.W.nsIn K mainGlobals "any" = some none)
    (z12 : PySem.W.nsIn K mainGlobals "ord" = some none)
    (z13 : PySem.W.nsIn K mainGlobals "range" = some none)
    (z14 : PySem.W.nsIn K mainGlobals "isinstance" = some none)
    (z15 : PySem.W.nsIn K mainGlobals "dict" = some none)
    (z16 : PySem.W.nsIn K mainGlobals "bool" = some none)
    {e1 e2 : Addr}
    {nm2 qn2 : Str} {N2 f2_ ca2 cc2 ef2 : Addr} {bs2 : List Value} {sn2 : List Str} {sub2 : List Value} {ab2 : Bool} {col2 : Option Bool} {dd2 : Option Addr} {m0_2 m1_2 m2_2 m3_2 m5_2 : Option Value}
    {oc_2 doc_2 pm_2 ct_2 ccl_2 cl_2 : Value} {od_2 an_2 ccd_2 cld_2 : Option Addr} {osl_2 ccs_2 csl_2 : Array (Option Value)} {vs_2 : Array Value} {file_2 : Str} {tf_2 : Tok}
    (xg1 : PySem.W.nsIn K mainGlobals "Malformed" = some (some (.ref e1)))
    (xk1 : PySem.W.keepIn K (.ref e1) = true)
    (xe1 : PySem.W.subIn K (.ref e1) (.type "BaseException") = some true)
    (xt1 : PySem.W.typeIn K (.ref e1) = some (.type "type"))
    (xh1 : PySem.W.excIn K e1 [.type "ValueError", .type "Exception", .type "BaseException", .type "object"] "ValueError.__new__" = true)
    (xg2 : PySem.W.nsIn K mainGlobals "Refused" = some (some (.ref e2)))
    (xk2 : PySem.W.keepIn K (.ref e2) = true)
    (xe2 : PySem.W.subIn K (.ref e2) (.type "BaseException") = some true)
    (xt2 : PySem.W.typeIn K (.ref e2) = some (.type "type"))
    (xm1_1 : PySem.W.exmOne K (.ref e1) (.ref e1) = some true)
    (xm1_2 : PySem.W.exmOne K (.ref e1) (.ref e2) = some false)
    (xm2_1 : PySem.W.exmOne K (.ref e2) (.ref e1) = some false)
    (xm2_2 : PySem.W.exmOne K (.ref e2) (.ref e2) = some true)
    (xL_2 : K.lookup e2 = some (excClassObj nm2 qn2 e2 N2 bs2 [.ref ef2, .type "ValueError", .type "Exception", .type "BaseException", .type "object"] true sn2 sub2 ab2 col2 dd2 m0_2 m1_2 m2_2 m3_2 m5_2 "ValueError.__new__"))
    (xD_2 : PySem.W.hasDictIn K e2 = true)
    (xa_2 : PySem.W.findIn K (.ref e2) "__setattr__" = some (some (.builtin "object.__setattr__")))
    (xb_2 : PySem.W.findIn K (.ref e2) "__getattribute__" = some (some (.builtin "BaseException.__getattribute__")))
    (xc_2 : PySem.W.findIn K (.ref e2) "__getattr__" = some none)
    (xn_2 : PySem.W.findIn K (.ref e2) "reason" = some none)
    (xo_2 : PySem.W.nsIn K cStatics "thirdparty.any" = some none)
    (xs_2 : PySem.W.ks_superIn K e2 e2 "__init__" = some (some (.builtin "ValueError.__init__")))
    (xu_2 : PySem.W.subIn K (.ref e2) (.type "ValueError") = some true)
    (xr_2 : PySem.W.mroIn K e2 (.ref e2) = some true)
    (xi_2 : PySem.W.findIn K (.ref e2) "__init__" = some (some (.ref f2_)))
    (xy_2 : PySem.W.typeIn K (.ref f2_) = some (.type "function"))
    (xl_2 : K.lookup f2_ = some ⟨oc_2, od_2, .func (PySem.W.ksFn "__init__" "Refused.__init__" (defArgs (memS 3 0)) (defBody (memS 3 0)) (defScope (memS 3 0)) .none .none doc_2 pm_2 an_2 (.ref ca2) ct_2 cc2), osl_2⟩)
    (xq_2 : PySem.W.codeIn K (.ref ca2) "Refused.__init__" = true)
    (xv_2 : K.lookup ca2 = some ⟨ccl_2, ccd_2, .fields vs_2, ccs_2⟩)
    (xw_2 : vs_2[2]? = some (.str file_2 tf_2))
    (xz_2 : (PySem.Challenge.pw_weightkeepers_k16_whole_macwilliams_iden.main.file == file_2) = true)
    (xx_2 : K.lookup cc2 = some ⟨cl_2, cld_2, .cell (some (.ref e2)), csl_2⟩)
    (zsup : PySem.W.nsIn K mainGlobals "super" = some none)
    (nl : (K.all fun p => !(p.2.cls == .type "list")) = true)
    (pure : PureLaw) :
    ∃ fd : FuncData, (∀ (s : Shared) (v : Value), BindsTo s fd ⟨[v], []⟩ [(pLaw, v)]) ∧ ∀ base : Heap, K.In base → base.Ns mainGlobals mg → FnOk PySem.Challenge.pw_weightkeepers_k16_whole_macwilliams_iden w K mg base (L2.CX PySem.Challenge.pw_weightkeepers_k16_whole_macwilliams_iden w) 5 fa fd [pLaw] (spLaw K) := by
  have e := hfa.symm.trans (PySem.W.mg_of X G a20)
  cases e
  have F0 := fun_mk (st := topS 5) l0 c0 k0
  have B0 := F0.binds (ps := p0) fun _ _ _ _ _ _ us hl => match us, hl with | [_], _ => rfl
  have F1 := fun_mk (st := topS 6) l1 c1 k1
  have B1 := F1.binds (ps := p1) fun _ _ _ _ _ _ us hl => match us, hl with | [_, _], _ => rfl
  have F2 := fun_mk (st := topS 8) l2 c2 k2
  have B2 := F2.binds (ps := p2) fun _ _ _ _ _ _ us hl => match us, hl with | [_, _, _, _], _ => rfl
  have F3 := fun_mk (st := topS 9) l3 c3 k3
  have B3 := F3.binds (ps := p3) fun _ _ _ _ _ _ us hl => match us, hl with | [_, _], _ => rfl
  have F4 := fun_mk (st := topS 10) l4 c4 k4
  have B4 := F4.binds (ps := p4) fun _ _ _ _ _ _ us hl => match us, hl with | [_, _, _], _ => rfl
  have F5 := fun_mk (st := topS 11) l5 c5 k5
  have B5 := F5.binds (ps := p5) fun _ _ _ _ _ _ us hl => match us, hl with | [_, _], _ => rfl
  have F6 := fun_mk (st := topS 13) l6 c6 k6
  have B6 := F6.binds (ps := p6) fun _ _ _ _ _ _ us hl => match us, hl with | [_], _ => rfl
  have F7 := fun_mk (st := topS 14) l7 c7 k7
  have B7 := F7.binds (ps := p7) fun _ _ _ _ _ _ us hl => match us, hl with | [_, _], _ => rfl
  have F8 := fun_mk (st := topS 15) l8 c8 k8
  have B8 := F8.binds (ps := p8) fun _ _ _ _ _ _ us hl => match us, hl with | [_, _, _, _], _ => rfl
  have F9 := fun_mk (st := topS 16) l9 c9 k9
  have B9 := F9.binds (ps := p9) fun _ _ _ _ _ _ us hl => match us, hl with | [_, _, _], _ => rfl
  have F10 := fun_mk (st := topS 17) l10 c10 k10
  have B10 := F10.binds (ps := p10) fun _ _ _ _ _ _ us hl => match us, hl with | [_], _ => rfl
  have F11 := fun_mk (st := topS 18) l11 c11 k11
  have B11 := F11.binds (ps := p11) fun _ _ _ _ _ _ us hl => match us, hl with | [_, _], _ => rfl
  have F12 := fun_mk (st := topS 19) l12 c12 k12
  have B12 := F12.binds (ps := p12) fun _ _ _ _ _ _ us hl => match us, hl with | [_, _], _ => rfl
  have F13 := fun_mk (st := topS 20) l13 c13 k13
  have B13 := F13.binds (ps := p13) fun _ _ _ _ _ _ us hl => match us, hl with | [_], _ => rfl
  have F14 := fun_mk (st := topS 21) l14 c14 k14
  have B14 := F14.binds (ps := p14) fun _ _ _ _ _ _ us hl => match us, hl with | [_, _, _], _ => rfl
  have F15 := fun_mk (st := topS 22) l15 c15 k15
  have B15 := F15.binds (ps := p15) fun _ _ _ _ _ _ us hl => match us, hl with | [_, _], _ => rfl
  have F16 := fun_mk (st := topS 23) l16 c16 k16
  have B16 := F16.binds (ps := p16) fun _ _ _ _ _ _ us hl => match us, hl with | [_, _], _ => rfl
  have F17 := fun_mk (st := topS 24) l17 c17 k17
  have B17 := F17.binds (ps := p17) fun _ _ _ _ _ _ us hl => match us, hl with | [_, _, _], _ => rfl
  have F18 := fun_mk (st := topS 25) l18 c18 k18
  have B18 := F18.binds (ps := p18) fun _ _ _ _ _ _ us hl => match us, hl with | [_, _], _ => rfl
  have F19 := fun_mk (st := topS 26) l19 c19 k19
  have B19 := F19.binds (ps := p19) fun _ _ _ _ _ _ us hl => match us, hl with | [_, _, _], _ => rfl
  have L2 : FltC PySem.Challenge.pw_weightkeepers_k16_whole_macwilliams_iden K mg e2 "Refused" "reason" := by
    refine ⟨PySem.W.mg_of X G xg2, xk2, xe2, xt2, xD_2, ⟨_, _, _, _, _, _, _, _, _, _, _, _, _, _, _, xL_2, by rfl⟩, xa_2, xb_2, xc_2, xn_2, xo_2, xs_2, xu_2, xr_2, PySem.W.mg_none_of X G zsup, by decide +kernel, ?_⟩
    refine ⟨f2_, cc2, ca2, "reason", .par, oc_2, od_2, doc_2, pm_2, an_2, ct_2, osl_2, _, _, _, _, xi_2, xy_2, xl_2, xq_2, ⟨_, _, _, _, _, _, _, _, _, _, 0, ?b, rfl⟩, ⟨vs_2, ccl_2, ccd_2, ccs_2, file_2, tf_2, xv_2, xw_2, xz_2⟩, ⟨cl_2, cld_2, csl_2, xx_2⟩, ⟨_, rfl, rfl⟩, fun s u v => .of_eq rfl, ?_⟩
    · decide
    · exact ⟨by decide +kernel, by decide +kernel, by decide +kernel, by decide +kernel, by decide +kernel, by decide +kernel, by decide +kernel, by decide +kernel, by decide, by decide⟩
  have t : TabOk PySem.Challenge.pw_weightkeepers_k16_whole_macwilliams_iden T (B K e1 e2) (fun i => (T.cons[i]?).map (·.2)) K mg [⟨f0, PySem.W.fnOf "is_integer" "is_integer" (defArgs (topS 5)) (defBody (topS 5)) (defScope (topS 5)) .none kV0 dc0 pm0 an0 cd0 ct0, topS 5, n0, p0, "is_integer"⟩, ⟨f1, PySem.W.fnOf "binomial" "binomial" (defArgs (topS 6)) (defBody (topS 6)) (defScope (topS 6)) .none kV1 dc1 pm1 an1 cd1 ct1, topS 6, n1, p1, "binomial"⟩, ⟨f2, PySem.W.fnOf "krawtchouk" "krawtchouk" (defArgs (topS 8)) (defBody (topS 8)) (defScope (topS 8)) .none kV2 dc2 pm2 an2 cd2 ct2, topS 8, n2, p2, "krawtchouk"⟩, ⟨f3, PySem.W.fnOf "is_numbers" "is_numbers" (defArgs (topS 9)) (defBody (topS 9)) (defScope (topS 9)) .none kV3 dc3 pm3 an3 cd3 ct3, topS 9, n3, p3, "is_numbers"⟩, ⟨f4, PySem.W.fnOf "macwilliams" "macwilliams" (defArgs (topS 10)) (defBody (topS 10)) (defScope (topS 10)) .none kV4 dc4 pm4 an4 cd4 ct4, topS 10, n4, p4, "macwilliams"⟩, ⟨f5, PySem.W.fnOf "binomial_moment" "binomial_moment" (defArgs (topS 11)) (defBody (topS 11)) (defScope (topS 11)) .none kV5 dc5 pm5 an5 cd5 ct5, topS 11, n5, p5, "binomial_moment"⟩, ⟨f6, PySem.W.fnOf "_law_numbers" "_law_numbers" (defArgs (topS 13)) (defBody (topS 13)) (defScope (topS 13)) .none kV6 dc6 pm6 an6 cd6 ct6, topS 13, n6, p6, "_law_numbers"⟩, ⟨f7, PySem.W.fnOf "_law_next" "_law_next" (defArgs (topS 14)) (defBody (topS 14)) (defScope (topS 14)) .none kV7 dc7 pm7 an7 cd7 ct7, topS 14, n7, p7, "_law_next"⟩, ⟨f8, PySem.W.fnOf "_law_rows" "_law_rows" (defArgs (topS 15)) (defBody (topS 15)) (defScope (topS 15)) .none kV8 dc8 pm8 an8 cd8 ct8, topS 15, n8, p8, "_law_rows"⟩, ⟨f9, PySem.W.fnOf "_law_words" "_law_words" (defArgs (topS 16)) (defBody (topS 16)) (defScope (topS 16)) .none kV9 dc9 pm9 an9 cd9 ct9, topS 16, n9, p9, "_law_words"⟩, ⟨f10, PySem.W.fnOf "_law_weight" "_law_weight" (defArgs (topS 17)) (defBody (topS 17)) (defScope (topS 17)) .none kV10 dc10 pm10 an10 cd10 ct10, topS 17, n10, p10, "_law_weight"⟩, ⟨f11, PySem.W.fnOf "_law_all" "_law_all" (defArgs (topS 18)) (defBody (topS 18)) (defScope (topS 18)) .none kV11 dc11 pm11 an11 cd11 ct11, topS 18, n11, p11, "_law_all"⟩, ⟨f12, PySem.W.fnOf "_law_numbers_of" "_law_numbers_of" (defArgs (topS 19)) (defBody (topS 19)) (defScope (topS 19)) .none kV12 dc12 pm12 an12 cd12 ct12, topS 19, n12, p12, "_law_numbers_of"⟩, ⟨f13, PySem.W.fnOf "_law_shape" "_law_shape" (defArgs (topS 20)) (defBody (topS 20)) (defScope (topS 20)) .none kV13 dc13 pm13 an13 cd13 ct13, topS 20, n13, p13, "_law_shape"⟩, ⟨f14, PySem.W.fnOf "_law_dual" "_law_dual" (defArgs (topS 21)) (defBody (topS 21)) (defScope (topS 21)) .none kV14 dc14 pm14 an14 cd14 ct14, topS 21, n14, p14, "_law_dual"⟩, ⟨f15, PySem.W.fnOf "_law_places" "_law_places" (defArgs (topS 22)) (defBody (topS 22)) (defScope (topS 22)) .none kV15 dc15 pm15 an15 cd15 ct15, topS 22, n15, p15, "_law_places"⟩, ⟨f16, PySem.W.fnOf "_law_zero_pairs" "_law_zero_pairs" (defArgs (topS 23)) (defBody (topS 23)) (defScope (topS 23)) .none kV16 dc16 pm16 an16 cd16 ct16, topS 23, n16, p16, "_law_zero_pairs"⟩, ⟨f17, PySem.W.fnOf "_law_told" "_law_told" (defArgs (topS 24)) (defBody (topS 24)) (defScope (topS 24)) .none kV17 dc17 pm17 an17 cd17 ct17, topS 24, n17, p17, "_law_told"⟩, ⟨f18, PySem.W.fnOf "_law_turning" "_law_turning" (defArgs (topS 25)) (defBody (topS 25)) (defScope (topS 25)) .none kV18 dc18 pm18 an18 cd18 ct18, topS 25, n18, p18, "_law_turning"⟩, ⟨f19, PySem.W.fnOf "_law_due" "_law_due" (defArgs (topS 26)) (defBody (topS 26)) (defScope (topS 26)) .none kV19 dc19 pm19 an19 cd19 ct19, topS 26, n19, p19, "_law_due"⟩] := by
    refine ⟨rfl, rfl, fun i fn d h1 h2 => ?_, fun c cl h => by simp [T] at h, fun i x d h => ?_, fun x hx => ?_, fun c hc => ?_, fun c x C C' fo fo' h1 h2 => ?_⟩
    · match i, h1, h2 with
      | 0, h1, h2 => cases h1; cases h2; exact ⟨F0, B0, rfl, rfl, sc0, .inl ⟨rfl, PySem.W.mg_of X G a0, ck0⟩⟩
      | 1, h1, h2 => cases h1; cases h2; exact ⟨F1, B1, rfl, rfl, sc1, .inl ⟨rfl, PySem.W.mg_of X G a1, ck1⟩⟩
      | 2, h1, h2 => cases h1; cases h2; exact ⟨F2, B2, rfl, rfl, sc2, .inl ⟨rfl, PySem.W.mg_of X G a2, ck2⟩⟩
      | 3, h1, h2 => cases h1; cases h2; exact ⟨F3, B3, rfl, rfl, sc3, .inl ⟨rfl, PySem.W.mg_of X G a3, ck3⟩⟩
      | 4, h1, h2 => cases h1; cases h2; exact ⟨F4, B4, rfl, rfl, sc4, .inl ⟨rfl, PySem.W.mg_of X G a4, ck4⟩⟩
      | 5, h1, h2 => cases h1; cases h2; exact ⟨F5, B5, rfl, rfl, sc5, .inl ⟨rfl, PySem.W.mg_of X G a5, ck5⟩⟩
      | 6, h1, h2 => cases h1; cases h2; exact ⟨F6, B6, rfl, rfl, sc6, .inl ⟨rfl, PySem.W.mg_of X G a6, ck6⟩⟩
      | 7, h1, h2 => cases h1; cases h2; exact ⟨F7, B7, rfl, rfl, sc7, .inl ⟨rfl, PySem.W.mg_of X G a7, ck7⟩⟩
      | 8, h1, h2 => cases h1; cases h2; exact ⟨F8, B8, rfl, rfl, sc8, .inl ⟨rfl, PySem.W.mg_of X G a8, ck8⟩⟩
      | 9, h1, h2 => cases h1; cases h2; exact ⟨F9, B9, rfl, rfl, sc9, .inl ⟨rfl, PySem.W.mg_of X G a9, ck9⟩⟩
      | 10, h1, h2 => cases h1; cases h2; exact ⟨F10, B10, rfl, rfl, sc10, .inl ⟨rfl, PySem.W.mg_of X G a10, ck10⟩⟩
      | 11, h1, h2 => cases h1; cases h2; exact ⟨F11, B11, rfl, rfl, sc11, .inl ⟨rfl, PySem.W.mg_of X G a11, ck11⟩⟩
      | 12, h1, h2 => cases h1; cases h2; exact ⟨F12, B12, rfl, rfl, sc12, .inl ⟨rfl, PySem.W.mg_of X G a12, ck12⟩⟩
      | 13, h1, h2 => cases h1; cases h2; exact ⟨F13, B13, rfl, rfl, sc13, .inl ⟨rfl, PySem.W.mg_of X G a13, ck13⟩⟩
      | 14, h1, h2 => cases h1; cases h2; exact ⟨F14, B14, rfl, rfl, sc14, .inl ⟨rfl, PySem.W.mg_of X G a14, ck14⟩⟩
      | 15, h1, h2 => cases h1; cases h2; exact ⟨F15, B15, rfl, rfl, sc15, .inl ⟨rfl, PySem.W.mg_of X G a15, ck15⟩⟩
      | 16, h1, h2 => cases h1; cases h2; exact ⟨F16, B16, rfl, rfl, sc16, .inl ⟨rfl, PySem.W.mg_of X G a16, ck16⟩⟩
      | 17, h1, h2 => cases h1; cases h2; exact ⟨F17, B17, rfl, rfl, sc17, .inl ⟨rfl, PySem.W.mg_of X G a17, ck17⟩⟩
      | 18, h1, h2 => cases h1; cases h2; exact ⟨F18, B18, rfl, rfl, sc18, .inl ⟨rfl, PySem.W.mg_of X G a18, ck18⟩⟩
      | 19, h1, h2 => cases h1; cases h2; exact ⟨F19, B19, rfl, rfl, sc19, .inl ⟨rfl, PySem.W.mg_of X G a19, ck19⟩⟩
      | m + 20, h1, h2 => exact absurd h1 (by simp [T])
    · simp [T] at h
    · simp only [bltNames, List.mem_cons, List.not_mem_nil, or_false] at hx
      rcases hx with rfl | rfl | rfl | rfl | rfl | rfl | rfl | rfl | rfl | rfl | rfl | rfl | rfl | rfl | rfl | rfl | rfl
      · exact PySem.W.mg_none_of X G z0
      · exact PySem.W.mg_none_of X G z1
      · exact PySem.W.mg_none_of X G z2
      · exact PySem.W.mg_none_of X G z3
      · exact PySem.W.mg_none_of X G z4
      · exact PySem.W.mg_none_of X G z5
      · exact PySem.W.mg_none_of X G z6
      · exact PySem.W.mg_none_of X G z7
      · exact PySem.W.mg_none_of X G z8
      · exact PySem.W.mg_none_of X G z9
      · exact PySem.W.mg_none_of X G z10
      · exact PySem.W.mg_none_of X G z11
      · exact PySem.W.mg_none_of X G z12
      · exact PySem.W.mg_none_of X G z13
      · exact PySem.W.mg_none_of X G z14
      · exact PySem.W.mg_none_of X G z15
      · exact PySem.W.mg_none_of X G z16
    · have hc : c ∈ T.xs := List.contains_iff_mem.mp hc
      simp only [T, List.mem_cons, List.not_mem_nil, or_false] at hc
      rcases hc with rfl | rfl
      · exact ⟨e1, rfl, PySem.W.mg_of X G xg1, xk1, xe1, xt1, xh1⟩
      · exact ⟨e2, rfl, PySem.W.mg_of X G xg2, xk2, xe2, xt2, ⟨L2, ⟨xb_2, xc_2, xe2, xD_2⟩⟩⟩
    · have h1 : xcF e1 e2 c = some (C, fo) := h1
      have h2 : xcF e1 e2 x = some (C', fo') := h2
      unfold xcF at h1 h2
      split at h1 <;> first | cases h1 | skip
      all_goals (split at h2 <;> first | cases h2 | skip)
      all_goals (cases h1; cases h2)
      · exact xm1_1
      · exact xm1_2
      · exact xm2_1
      · exact xm2_2
  exact ⟨PySem.W.fnOf "law" "law" (defArgs (topS 27)) (defBody (topS 27)) (defScope (topS 27)) .none kV20 dc20 pm20 an20 cd20 ct20, fun s v => .of_eq rfl, fun base _ _ => law_fn t (fun_mk (st := topS 27) l20 c20 k20) scL (head_tail ckL.2.2) ckL.1 ckL.2.1 rfl (by decide) pure⟩
end Law
open PySem PySem.W PyProof.Rows in
set_option maxRecDepth 100000 in
set_option maxHeartbeats 0 in
theorem PySem.Challenge.cw_weightkeepers_k16_whole_macwilliams_iden_holds : PySem.Challenge.rw_weightkeepers_k16_whole_macwilliams_iden.Holds := by
  w_on; o_law; k_head; (case hw => w_witness2)
  k_fill
  refine L2.walk_of (l := PySem.Challenge.rw_weightkeepers_k16_whole_macwilliams_iden) (n := 63) (k := 5) (x := Law.pLaw) (CX := fun w => L2.CX PySem.Challenge.pw_weightkeepers_k16_whole_macwilliams_iden w) (sp := fun w => Mp.spLaw _) rfl (by decide) rfl ⟨rfl, by decide, by decide⟩ (fun w h Y => PySem.W.kIn_of Y) ?F (fun w _ a ns hl _ hS => Mp.hsp_law (by rfl) hl hS) (fun w H s e s' hh => by obtain ⟨_, _, _, _, _, _, _, _, _, _, _, _, z⟩ := hh; exact z)
  case F =>
    intro w mg fa h KX G hmg
    refine' Law.all_mk KX G hmg ?a0 ?l0 ?c0 ?k0 ?a1 ?l1 ?c1 ?k1 ?a2 ?l2 ?c2 ?k2 ?a3 ?l3 ?c3 ?k3 ?a4 ?l4 ?c4 ?k4 ?a5 ?l5 ?c5 ?k5 ?a6 ?l6 ?c6 ?k6 ?a7 ?l7 ?c7 ?k7 ?a8 ?l8 ?c8 ?k8 ?a9 ?l9 ?c9 ?k9 ?a10 ?l10 ?c10 ?k10 ?a11 ?l11 ?c11 ?k11 ?a12 ?l12 ?c12 ?k12 ?a13 ?l13 ?c13 ?k13 ?a14 ?l14 ?c14 ?k14 ?a15 ?l15 ?c15 ?k15 ?a16 ?l16 ?c16 ?k16 ?a17 ?l17 ?c17 ?k17 ?a18 ?l18 ?c18 ?k18 ?a19 ?l19 ?c19 ?k19 ?a20 ?l20 ?c20 ?k20 ?z0 ?z1 ?z2 ?z3 ?z4 ?z5 ?z6 ?z7 ?z8 ?z9 ?z10 ?z11 ?z12 ?z13 ?z14 ?z15 ?z16 ?xg1 ?xk1 ?xe1 ?xt1 ?xh1 ?xg2 ?xk2 ?xe2 ?xt2 ?xm1_1 ?xm1_2 ?xm2_1 ?xm2_2 ?xL_2 ?xD_2 ?xa_2 ?xb_2 ?xc_2 ?xn_2 ?xo_2 ?xs_2 ?xu_2 ?xr_2 ?xi_2 ?xy_2 ?xl_2 ?xq_2 ?xv_2 ?xw_2 ?xz_2 ?xx_2 ?zsup ?nl ?pu
    (case nl => rfl)
    (case pu => exact Law.pureLaw)
    (case a0 => k_is); (case l0 => k_is); (case c0 => k_is); (case k0 => k_is); (case a1 => k_is); (case l1 => k_is); (case c1 => k_is); (case k1 => k_is); (case a2 => k_is); (case l2 => k_is); (case c2 => k_is); (case k2 => k_is); (case a3 => k_is); (case l3 => k_is); (case c3 => k_is); (case k3 => k_is); (case a4 => k_is); (case l4 => k_is); (case c4 => k_is); (case k4 => k_is); (case a5 => k_is); (case l5 => k_is); (case c5 => k_is); (case k5 => k_is); (case a6 => k_is); (case l6 => k_is); (case c6 => k_is); (case k6 => k_is); (case a7 => k_is); (case l7 => k_is); (case c7 => k_is); (case k7 => k_is); (case a8 => k_is); (case l8 => k_is); (case c8 => k_is); (case k8 => k_is); (case a9 => k_is); (case l9 => k_is); (case c9 => k_is); (case k9 => k_is); (case a10 => k_is); (case l10 => k_is); (case c10 => k_is); (case k10 => k_is); (case a11 => k_is); (case l11 => k_is); (case c11 => k_is); (case k11 => k_is); (case a12 => k_is); (case l12 => k_is); (case c12 => k_is); (case k12 => k_is); (case a13 => k_is); (case l13 => k_is); (case c13 => k_is); (case k13 => k_is); (case a14 => k_is); (case l14 => k_is); (case c14 => k_is); (case k14 => k_is); (case a15 => k_is); (case l15 => k_is); (case c15 => k_is); (case k15 => k_is); (case a16 => k_is); (case l16 => k_is); (case c16 => k_is); (case k16 => k_is); (case a17 => k_is); (case l17 => k_is); (case c17 => k_is); (case k17 => k_is); (case a18 => k_is); (case l18 => k_is); (case c18 => k_is); (case k18 => k_is); (case a19 => k_is); (case l19 => k_is); (case c19 => k_is); (case k19 => k_is); (case a20 => k_is); (case l20 => k_is); (case c20 => k_is); (case k20 => k_is); (case z0 => k_is); (case z1 => k_is); (case z2 => k_is); (case z3 => k_is); (case z4 => k_is); (case z5 => k_is); (case z6 => k_is); (case z7 => k_is); (case z8 => k_is); (case z9 => k_is); (case z10 => k_is); (case z11 => k_is); (case z12 => k_is); (case z13 => k_is); (case z14 => k_is); (case z15 => k_is); (case z16 => k_is); (case xg1 => k_is); (case xk1 => k_is); (case xe1 => k_is); (case xt1 => k_is); (case xh1 => k_exc); (case xg2 => k_is); (case xk2 => k_is); (case xe2 => k_is); (case xt2 => k_is); (case xm1_1 => first | rfl | k_is); (case xm1_2 => first | rfl | k_is); (case xm2_1 => first | rfl | k_is); (case xm2_2 => first | rfl | k_is); (case xL_2 => k_is); (case xD_2 => k_is); (case xa_2 => k_is); (case xb_2 => k_is); (case xc_2 => k_is); (case xn_2 => k_is); (case xo_2 => k_is); (case xs_2 => ks_is); (case xu_2 => k_is); (case xr_2 => k_is); (case xi_2 => k_is); (case xy_2 => k_is); (case xl_2 => k_is); (case xq_2 => k_is); (case xv_2 => k_is); (case xw_2 => rfl); (case xz_2 => decide +kernel); (case xx_2 => k_is); (case zsup => k_is)
#print axioms PySem.Challenge.cw_weightkeepers_k16_whole_macwilliams_iden_holds

