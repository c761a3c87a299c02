import PyProof.Rows.All
import Wide.All
import OpenK.AllK
import Wide.FinOn
import HandS.ForMost
import HandS.ExcInit
import HandS.Wide
import HandS.WideBits
import HandS.Deep
import HandS.Style
import HandS.Conv
import HandS.More
import HandS.Codes
import HandS.DictComp
import HandS.FStr
import HandS.ExcField
import HandS.NoneIn
import HandS.IsInst
import HandS.Text
import KE.KExcIs
import KE.KExcSuper
import KE.KSuper
import HandS.Words
import HandS.Defaults
import HandS.HeadHook2
import PySem.Challenge.RW_tiespan_k59_refusals_by_their_classes
import KE.KStateDown
import Lean
import HandS.Head0
import HandS.Head1
import HandS.Head2
import HandS.HeadEnd
import HandS.HeadWalk
set_option Elab.async false
set_option linter.all false
set_option maxRecDepth 100000
set_option maxHeartbeats 0
section
namespace RI
open PySem PySem.Spec PyProof.Rows L2

/-- tree values -/
inductive D where
  | non | bl (b : Bool) | int (i : Int) | str (x : Str)
  | tup (xs : List D) | lst (xs : List D)
  | dct (kvs : List (Key × D)) | dctT (kvs : List (List Key × D))
  | obj (c : Nat) (fs : List (Nat × D))
  /-- an exception of a class of the program -/
  | exc (c : Nat) (fs : List (Nat × D))
  | ref (n : Nat)
  /-- the law's script -/
  | scr (xs : List D)

inductive Fld where
  | frz (d : D) | own (d : D)
inductive Cell where
  | lst (ds : List D) | dct (kvs : List (Key × D)) | inst (c : Nat) (fs : List (Nat × Fld))
abbrev Store := List Cell
inductive Slot where
  | emp | frz (d : D) | own (d : D) | lck (d : D)

/-- where a mutable object stands: out: elsewhere (callers, temporaries) -/
inductive Tag where
  | out | slot (i : Nat) | cell (n : Nat) | fld (n : Nat) (f : Nat)
  deriving DecidableEq
abbrev Tg := Addr → Option Tag

/-- the names of the classes' addresses and of the fields -/
structure Nm where
  K : PySem.W.Frag
  CA : Nat → Option Addr
  CX : Nat → Option Addr
  CB : Nat → Option Addr
  fn : Nat → Str

mutual
/-- v stands for d: nothing in it may be written -/
inductive Rep (M : Nm) (T : Tg) (H : Hp) : V → D → Prop
  | non : Rep M T H .non .non
  | bl (b : Bool) : Rep M T H (.bl b) (.bl b)
  | int (i : Int) : Rep M T H (.int i) (.int i)
  | str (x : Str) : Rep M T H (.str x) (.str x)
  | tup {a : Addr} {xs : List V} {ds : List D} : SqT M.K H a xs → RepAll M T H xs ds → Rep M T H (.ref a) (.tup ds)
  | lst {a : Addr} {xs : List V} {ds : List D} : H a = some (.lst xs) → T a = none → RepAll M T H xs ds → Rep M T H (.ref a) (.lst ds)
  | dct {a : Addr} {kvs : List (Key × V)} {ds : List (Key × D)} : Rd H a (.dK kvs) → T a = none → kvs.map Prod.fst = ds.map Prod.fst → RepAll M T H (kvs.map Prod.snd) (ds.map Prod.snd) → Rep M T H (.ref a) (.dct ds)
  | dctT {a : Addr} {kvs : List (List Key × V)} {ds : List (List Key × D)} : Rd H a (.dT kvs) → T a = none → kvs.map Prod.fst = ds.map Prod.fst → RepAll M T H (kvs.map Prod.snd) (ds.map Prod.snd) → Rep M T H (.ref a) (.dctT ds)
  | obj {a C dx : Addr} {c : Nat} {fs : List (Str × V)} {ds : List (Nat × D)} : H a = some (.ins C dx fs) → T a = none → M.CA c = some C → fs.map Prod.fst = ds.map (fun p => M.fn p.1) → RepAll M T H (fs.map Prod.snd) (ds.map Prod.snd) → Rep M T H (.ref a) (.obj c ds)
  | exc {a C dx : Addr} {c : Nat} {fs : List (Str × V)} {ds : List (Nat × D)} : H a = some (exo a C (some dx)) → H dx = some (exd dx fs) → T a = none → T dx = none → M.CX c = some C → fs.map Prod.fst = ds.map (fun p => M.fn p.1) → RepAll M T H (fs.map Prod.snd) (ds.map Prod.snd) → Rep M T H (.ref a) (.exc c ds)
  | ref {a : Addr} {n : Nat} : T a = some (.cell n) → Rep M T H (.ref a) (.ref n)
  | scr {a : Addr} {xs : List V} {ds : List D} : ((Rd H a (.lst xs) ∧ T a = none) ∨ SqL M.K (fun _ => none) a xs) → RepAll M T H xs ds → Rep M T H (.ref a) (.scr ds)
inductive RepAll (M : Nm) (T : Tg) (H : Hp) : List V → List D → Prop
  | nil : RepAll M T H [] []
  | cons {v : V} {vs : List V} {d : D} {ds : List D} : Rep M T H v d → RepAll M T H vs ds → RepAll M T H (v :: vs) (d :: ds)
end

/-- the top node at a, written by its owner alone; its items are frozen -/
inductive Node (M : Nm) (T : Tg) (H : Hp) (a : Addr) : D → Prop
  | lst {xs : List V} {ds : List D} : H a = some (.lst xs) → RepAll M T H xs ds → Node M T H a (.lst ds)
  | dct {kvs : List (Key × V)} {ds : List (Key × D)} : H a = some (.dK kvs) → kvs.map Prod.fst = ds.map Prod.fst → RepAll M T H (kvs.map Prod.snd) (ds.map Prod.snd) → Node M T H a (.dct ds)
  | dctT {kvs : List (List Key × V)} {ds : List (List Key × D)} : H a = some (.dT kvs) → kvs.map Prod.fst = ds.map Prod.fst → RepAll M T H (kvs.map Prod.snd) (ds.map Prod.snd) → Node M T H a (.dctT ds)
  | obj {C dx : Addr} {c : Nat} {fs : List (Str × V)} {ds : List (Nat × D)} : H a = some (.ins C dx fs) → M.CA c = some C → fs.map Prod.fst = ds.map (fun p => M.fn p.1) → RepAll M T H (fs.map Prod.snd) (ds.map Prod.snd) → Node M T H a (.obj c ds)
/-- the same, perhaps locked (a dict that a loop walks) -/
inductive NodeR (M : Nm) (T : Tg) (H : Hp) (a : Addr) : D → Prop
  | lst {xs : List V} {ds : List D} : H a = some (.lst xs) → RepAll M T H xs ds → NodeR M T H a (.lst ds)
  | dct {kvs : List (Key × V)} {ds : List (Key × D)} : Rd H a (.dK kvs) → kvs.map Prod.fst = ds.map Prod.fst → RepAll M T H (kvs.map Prod.snd) (ds.map Prod.snd) → NodeR M T H a (.dct ds)
  | dctT {kvs : List (List Key × V)} {ds : List (List Key × D)} : Rd H a (.dT kvs) → kvs.map Prod.fst = ds.map Prod.fst → RepAll M T H (kvs.map Prod.snd) (ds.map Prod.snd) → NodeR M T H a (.dctT ds)
  | obj {C dx : Addr} {c : Nat} {fs : List (Str × V)} {ds : List (Nat × D)} : H a = some (.ins C dx fs) → M.CA c = some C → fs.map Prod.fst = ds.map (fun p => M.fn p.1) → RepAll M T H (fs.map Prod.snd) (ds.map Prod.snd) → NodeR M T H a (.obj c ds)
theorem Node.r {M : Nm} {T : Tg} {H : Hp} {a : Addr} {d : D} (n : Node M T H a d) : NodeR M T H a d := by
  cases n with
  | lst h r => exact .lst h r
  | dct h e r => exact .dct (.inl h) e r
  | dctT h e r => exact .dctT (.inl h) e r
  | obj h c e r => exact .obj h c e r
/-- frozen, or read through its owner -/
def RepB (M : Nm) (T : Tg) (H : Hp) (v : V) (d : D) : Prop := Rep M T H v d ∨ ∃ a i, v = .ref a ∧ T a = some (.slot i) ∧ NodeR M T H a d
theorem Rep.b {M : Nm} {T : Tg} {H : Hp} {v : V} {d : D} (r : Rep M T H v d) : RepB M T H v d := .inl r

def isOwned : Option Tag → Bool
  | some (.cell _) => true
  | some (.fld _ _) => true
  | _ => false
/-- how the heap and the tags may go on: what stands in no cell stays; new tags at new addresses -/
structure Ev (T : Tg) (H : Hp) (T' : Tg) (H' : Hp) : Prop where
  keep : ∀ a o, H a = some o → isOwned (T a) = false → H' a = some o
  tups : ∀ a xs, H a = some (.tup xs) → H' a = some (.tup xs)
  frzs : ∀ a o u, H a = some (.frz o u) → H' a = some (.frz o u)
  new : ∀ a t, T' a = some t → T a = none → H a = none
  cells : ∀ a n, T a = some (.cell n) → T' a = some (.cell n)
  outs : ∀ a, T a = some .out → T' a = some .out
  slots : ∀ a i, T a = some (.slot i) → T' a = some (.slot i)
  there : ∀ a o, H a = some o → ∃ o', H' a = some o'

section
variable {M : Nm} {T T' T'' : Tg} {H H' H'' : Hp} {v : V} {d : D} {vs : List V} {ds : List D} {a : Addr}
theorem Ev.refl : Ev T H T H := ⟨fun _ _ h _ => h, fun _ _ h => h, fun _ _ _ h => h, fun a t h n => (by rw [n] at h; cases h), fun _ _ h => h, fun _ h => h, fun _ _ h => h, fun _ o h => ⟨o, h⟩⟩
theorem rd_keep (e : Ev T H T' H') {o : HO} (h : Rd H a o) (n : isOwned (T a) = false) : Rd H' a o := by
  rcases h with h | ⟨ob, h⟩
  · exact .inl (e.keep a _ h n)
  · exact .inr ⟨ob, e.keep a _ h n⟩
theorem rd_some {o : HO} (h : Rd H a o) : ∃ u, H a = some u := by
  rcases h with h | ⟨ob, h⟩
  · exact ⟨_, h⟩
  · exact ⟨_, h⟩
theorem Ev.none (e : Ev T H T' H') {o : HO} (h : H a = some o) (n : T a = none) : T' a = none := by
  cases q : T' a with
  | none => rfl
  | some t => rw [e.new a t q n] at h; cases h
theorem rd_none (e : Ev T H T' H') {o : HO} (h : Rd H a o) (n : T a = none) : T' a = none := by
  obtain ⟨u, h⟩ := rd_some h
  exact e.none h n
theorem sqt_keep {K : PySem.W.Frag} (e : Ev T H T' H') {xs : List V} (h : SqT K H a xs) : SqT K H' a xs := by
  rcases h with (h | ⟨o, h⟩) | h
  · exact .inl (.inl (e.tups a xs h))
  · exact .inl (.inr ⟨o, e.frzs a o _ h⟩)
  · exact .inr h
theorem scr_keep {K : PySem.W.Frag} (e : Ev T H T' H') {xs : List V} (h : (Rd H a (.lst xs) ∧ T a = none) ∨ SqL K (fun _ => none) a xs) : (Rd H' a (.lst xs) ∧ T' a = none) ∨ SqL K (fun _ => none) a xs := by
  rcases h with ⟨h, n⟩ | h
  · exact .inl ⟨rd_keep e h (by rw [n]; rfl), rd_none e h n⟩
  · exact .inr h
theorem scr_sql {K : PySem.W.Frag} {xs : List V} (h : (Rd H a (.lst xs) ∧ T a = none) ∨ SqL K (fun _ => none) a xs) : SqL K H a xs := by
  rcases h with ⟨h, _⟩ | h
  · exact .inl h
  · rcases h with h | h
    · rcases h with h | ⟨_, h⟩ <;> cases h
    · exact .inr h
mutual
theorem Rep.ev (e : Ev T H T' H') : ∀ {v : V} {d : D}, Rep M T H v d → Rep M T' H' v d
  | _, _, .non => .non
  | _, _, .bl b => .bl b
  | _, _, .int i => .int i
  | _, _, .str x => .str x
  | _, _, .tup h r => .tup (sqt_keep e h) (RepAll.ev e r)
  | _, _, .lst h n r => .lst (e.keep _ _ h (by rw [n]; rfl)) (e.none h n) (RepAll.ev e r)
  | _, _, .dct h n k r => .dct (rd_keep e h (by rw [n]; rfl)) (rd_none e h n) k (RepAll.ev e r)
  | _, _, .dctT h n k r => .dctT (rd_keep e h (by rw [n]; rfl)) (rd_none e h n) k (RepAll.ev e r)
  | _, _, .obj h n c k r => .obj (e.keep _ _ h (by rw [n]; rfl)) (e.none h n) c k (RepAll.ev e r)
  | _, _, .exc h h' n n' c k r => .exc (e.keep _ _ h (by rw [n]; rfl)) (e.keep _ _ h' (by rw [n']; rfl)) (e.none h n) (e.none h' n') c k (RepAll.ev e r)
  | _, _, .ref h => .ref (e.cells _ _ h)
  | _, _, .scr h r => .scr (scr_keep e h) (RepAll.ev e r)
theorem RepAll.ev (e : Ev T H T' H') : ∀ {vs : List V} {ds : List D}, RepAll M T H vs ds → RepAll M T' H' vs ds
  | _, _, .nil => .nil
  | _, _, .cons r t => .cons (Rep.ev e r) (RepAll.ev e t)
end
theorem NodeR.ev (e : Ev T H T' H') (n : isOwned (T a) = false) (h : NodeR M T H a d) : NodeR M T' H' a d := by
  cases h with
  | lst h r => exact .lst (e.keep _ _ h n) (r.ev e)
  | dct h k r => exact .dct (rd_keep e h n) k (r.ev e)
  | dctT h k r => exact .dctT (rd_keep e h n) k (r.ev e)
  | obj h c k r => exact .obj (e.keep _ _ h n) c k (r.ev e)
theorem Node.ev (e : Ev T H T' H') (n : isOwned (T a) = false) (h : Node M T H a d) : Node M T' H' a d := by
  cases h with
  | lst h r => exact .lst (e.keep _ _ h n) (r.ev e)
  | dct h k r => exact .dct (e.keep _ _ h n) k (r.ev e)
  | dctT h k r => exact .dctT (e.keep _ _ h n) k (r.ev e)
  | obj h c k r => exact .obj (e.keep _ _ h n) c k (r.ev e)
theorem RepB.ev (e : Ev T H T' H') (h : RepB M T H v d) : RepB M T' H' v d := by
  rcases h with h | ⟨a, i, rfl, t, h⟩
  · exact .inl (h.ev e)
  · exact .inr ⟨a, i, rfl, e.slots a i t, h.ev e (by rw [t]; rfl)⟩
theorem Ev.trans (e : Ev T H T' H') (f : Ev T' H' T'' H'') (g : ∀ a o, H a = some o → isOwned (T a) = false → isOwned (T' a) = false := by assumption) : Ev T H T'' H'' :=
  ⟨fun a o h n => f.keep a o (e.keep a o h n) (g a o h n), fun a xs h => f.tups a xs (e.tups a xs h), fun a o u h => f.frzs a o u (e.frzs a o u h), fun a t h n => by
    cases q : T' a with
    | none =>
      have h1 := f.new a t h q
      cases r : H a with
      | none => rfl
      | some o =>
        have := e.keep a o r (by rw [n]; rfl)
        rw [h1] at this
        cases this
    | some t' => exact e.new a t' q n, fun a n h => f.cells a n (e.cells a n h), fun a h => f.outs a (e.outs a h), fun a i h => f.slots a i (e.slots a i h), fun a o h => let ⟨o1, h1⟩ := e.there a o h; f.there a o1 h1⟩
theorem Ev.own (e : Ev T H T' H') {o : HO} (h : H a = some o) (n : isOwned (T a) = false) : isOwned (T' a) = false := by
  cases q : T a with
  | none => rw [e.none h q]; rfl
  | some t =>
    cases t with
    | out => rw [e.outs a q]; rfl
    | slot i => rw [e.slots a i q]; rfl
    | cell n' => rw [q] at n; cases n
    | fld n' f => rw [q] at n; cases n
theorem Ev.then (e : Ev T H T' H') (f : Ev T' H' T'' H'') : Ev T H T'' H'' := e.trans f fun _ _ h n => e.own h n
end
end RI
end

section
namespace RI
open PySem PySem.Spec PyProof.Rows L2

inductive BOp where | add | sub | mul | fdiv | mod
  deriving DecidableEq
inductive COp where | lt | le | gt | ge | eq | ne | isN | notN | in_ | nin
  deriving DecidableEq
/-- targets -/
inductive TG where
  | nm (i : Nat) | tp (ts : List TG)
/-- what is walked -/
inductive IK where | seq | enum (k : Int) | zip | rng | key
  deriving DecidableEq
inductive SE where
  | bad
  | var (i : Nat) | bor (i : Nat)
  | cint (i : Int) | cstr (x : Str) | cbl (b : Bool) | cnon
  | glb (x : Nat)
  | bin (o : BOp) (a b : SE) | neg (a : SE)
  | not_ (a : SE) | and_ (a b : SE) | or_ (a b : SE)
  | cmp (o : COp) (a b : SE) | chain (o o' : COp) (a b c : SE)
  | ite (c a b : SE)
  | idx (a b : SE) | slc (a : SE) (lo hi : SE) | rev (a : SE)
  | fld (a : SE) (f : Nat) | idxT (a : SE) (es : List SE)
  | tup (es : List SE) | lst (es : List SE) | newc (es : List SE) | dct (ks vs : List SE) | dctT
  | call (f : Nat) (es : List SE) | pcall (b : Bool) (f : Nat) (es : List SE)
  | mk (c : Nat) (es : List SE) | cst (d : D)
  | mth (a : SE) (m : Nat) (es : List SE)
  | bi (f : Nat) (es : List SE)
  | isi (a : SE) (ts : List Nat)
  | mkx (c : Nat) (es : List SE)
  | spl (a b : SE)
  | bm (a : SE) (m : Nat) (es : List SE)
  | lc (vs : List Nat) (e : SE) (t : TG) (k : IK) (it : List SE) (c : SE)
  | lc2 (vs vs1 : List Nat) (e : SE) (t : TG) (k : IK) (it : List SE) (t1 : TG) (k1 : IK) (it1 : List SE)
  | dc (vs : List Nat) (e e' : SE) (t : TG) (k : IK) (it : List SE)
  | sset2 (vs vs1 : List Nat) (e : SE) (t : TG) (k : IK) (it : List SE) (t1 : TG) (k1 : IK) (it1 : List SE)
  | sset (a : SE)
  | fstr (es : List SE)
inductive SS where
  | bad | pass | brk | cont
  | ret (e : SE)
  | drop (e : SE)
  | asg (i : Nat) (e : SE)
  | own (i : Nat) (e : SE)
  | unp (ts : List TG) (e : SE)
  | par (ts : List (Nat × Bool)) (es : List SE)
  | aug (i : Nat) (o : BOp) (e : SE)
  | put (i : Nat) (k e : SE) | putT (i : Nat) (es : List SE) (e : SE)
  | putR (a k e : SE)
  | mut (i : Nat) (m : Nat) (es : List SE)
  | sfld (i : Nat) (f : Nat) (e : SE)
  | frz (is : List Nat)
  | if_ (c : SE) (a b : List SS)
  | for_ (l : Option Nat) (t : TG) (k : IK) (it : List SE) (body : List SS)
  | while_ (c : SE) (body : List SS)

/-- a def of the text: its slots' number, its parameters' number, its body; cls: it is the __init__ of that class of values -/
structure Fn where
  n : Nat
  ps : Nat
  cls : Option Nat
  body : List SS
/-- what the text has: module values, defs, methods, constructors -/
structure Tb where
  fn : Nat → Option Fn
  glb : Nat → Option D
  meth : Nat → Nat → Option Nat
  bop : Nat → BOp → Option Nat
  cop : Nat → COp → Option Nat
  init : Nat → Option Nat
  fok : Nat → Nat → Bool
  xok : Nat → Nat → Bool
  xin : Nat → List D → Option (List (Nat × D))
  sub : Nat → Nat → Option Bool

abbrev Rs (α : Type) := Option (α × Store)
def bnd {α β : Type} (x : Rs α) (f : α → Store → Rs β) : Rs β := match x with | some (a, S) => f a S | none => none
theorem bnd_some {α β : Type} (a : α) (S : Store) (f : α → Store → Rs β) : bnd (some (a, S)) f = f a S := rfl
theorem bnd_none {α β : Type} (f : α → Store → Rs β) : bnd none f = none := rfl

/-- two ints' product, quotient may be reckoned -/
def mulOk (i j : Int) : Bool := decide (i.natAbs < 2 ^ 64) || (decide (j.natAbs < 2 ^ 64) || decide (i.natAbs.log2 + j.natAbs.log2 < 134000000))
def divOk (j : Int) : Bool := decide (j ≠ 0) && decide (j.natAbs.log2 < 9000)
def evAdd (x y : D) : Option D := match x, y with
  | .int i, .int j => some (.int (i + j))
  | .str i, .str j => if i.length + j.length ≤ sizeLine then some (.str (i ++ j)) else none
  | .lst xs, .lst ys => if xs.length + ys.length ≤ sizeLine then some (.lst (xs ++ ys)) else none
  | _, _ => none
def evInts (f : Int → Int → Option Int) (x y : D) : Option D := match x, y with
  | .int i, .int j => (f i j).map D.int
  | _, _ => none
def fSub (i j : Int) : Option Int := some (i - j)
def fMul (i j : Int) : Option Int := if mulOk i j then some (i * j) else none
def fDiv (i j : Int) : Option Int := if divOk j then some (i.fdiv j) else none
def fMod (i j : Int) : Option Int := if 0 < j then some (i % j) else none
def evBin : BOp → D → D → Option D
  | .add => evAdd
  | .sub => evInts fSub
  | .mul => evInts fMul
  | .fdiv => evInts fDiv
  | .mod => evInts fMod

mutual
/-- as the library's data; what is none of it becomes a dict -/
def toP : D → PyData
  | .non => .none
  | .bl b => .bool b
  | .int i => .int i
  | .str x => .str x
  | .tup xs => .tuple (toPs xs)
  | .lst xs => .list (toPs xs)
  | .dct _ => .dict []
  | .dctT _ => .dict []
  | .obj _ _ => .dict []
  | .exc _ _ => .dict []
  | .ref _ => .dict []
  | .scr _ => .dict []
def toPs : List D → List PyData
  | [] => []
  | x :: xs => toP x :: toPs xs
end
def shp (d : D) : Bool := SeqAt.shaped (toP d)
def eqD (d e : D) : Option Bool := if shp d && shp e then some (PyData.eqv (toP d) (toP e)) else none
def inD (d : D) (ds : List D) : Option Bool := if shp d && shp (.lst ds) then some (ds.any fun z => PyData.eqv (toP z) (toP d)) else none
/-- x op= y, for what is not changed in place -/
def evAug (o : BOp) (x y : D) : Option D := match x with
  | .int _ => evBin o x y
  | .str _ => evBin o x y
  | _ => none
def strLt (x y : Str) : Bool := decide (x.cps.toList < y.cps.toList)
def keyD : D → Option Key
  | .int i => some (.inl i)
  | .str x => some (.inr x)
  | _ => none
def keysD : List D → Option (List Key)
  | [] => some []
  | d :: ds => match keyD d, keysD ds with | some k, some ks => some (k :: ks) | _, _ => none
def dKey : Key → D
  | .inl i => .int i
  | .inr x => .str x
def getK {κ : Type} [DecidableEq κ] (kvs : List (κ × D)) (k : κ) : Option D := (kvs.find? fun kv => decide (kv.1 = k)).map (·.2)
def setK {κ : Type} [DecidableEq κ] (kvs : List (κ × D)) (k : κ) (v : D) : List (κ × D) :=
  if (kvs.any fun kv => decide (kv.1 = k)) = true then kvs.map (fun kv => if kv.1 = k then (kv.1, v) else kv) else kvs ++ [(k, v)]
/-- what a dict holds at a key; outer none: no such question -/
def getD? : D → D → Option (Option D)
  | .dct kvs, y => (keyD y).map (getK kvs)
  | _, _ => none
def getT? : D → List D → Option D
  | .dctT kvs, ys => (keysD ys).bind (getK kvs)
  | _, _ => none
def setT? : D → List D → D → Option D
  | .dctT kvs, ys, v => if kvs.length < sizeLine then (keysD ys).map fun k => .dctT (setK kvs k v) else none
  | _, _, _ => none
def setD? : D → D → D → Option D
  | .dct kvs, y, v => if kvs.length < sizeLine then (keyD y).map fun k => .dct (setK kvs k v) else none
  | .lst xs, .int i, v => (ixN xs.length i).map fun j => .lst (xs.set j v)
  | _, _, _ => none
def alt {α : Type} (a b : Option α) : Option α := match a with | some x => some x | none => b
def gInt (p : Int → Int → Bool) (x y : D) : Option Bool := match x, y with
  | .int i, .int j => some (p i j)
  | _, _ => none
def gStr (p : Str → Str → Bool) (x y : D) : Option Bool := match x, y with
  | .str i, .str j => some (p i j)
  | _, _ => none
def gIn (x y : D) : Option Bool := match y with
  | .lst ds => inD x ds
  | _ => none
def gSign (x y : D) : Option Bool := match x, y with
  | .str s, .str z => (match s.cps.toList with
    | [c] => some (decide (c ∈ z.cps.toList))
    | _ => none)
  | _, _ => none
def isNon : D → Bool
  | .non => true
  | _ => false
def gIsN (x y : D) : Option Bool := match y with
  | .non => some (isNon x)
  | _ => none
def gDin (x y : D) : Option Bool := (getD? y x).map Option.isSome
def nt (f : D → D → Option Bool) (x y : D) : Option Bool := (f x y).map not
def evIn (x y : D) : Option Bool := match y with
  | .dct _ => gDin x y
  | _ => alt (gSign x y) (gIn x y)
def evLt (x y : D) : Option Bool := alt (gInt (fun i j => decide (i < j)) x y) (gStr strLt x y)
def evCmp : COp → D → D → Option Bool
  | .lt => evLt
  | .le => gInt fun i j => decide (i ≤ j)
  | .gt => gInt fun i j => decide (j < i)
  | .ge => gInt fun i j => decide (j ≤ i)
  | .isN => gIsN
  | .notN => nt gIsN
  | .eq => eqD
  | .ne => nt eqD
  | .in_ => evIn
  | .nin => nt evIn
def evIdx : D → D → Option D
  | .lst xs, .int i => atI xs i
  | .tup xs, .int i => atI xs i
  | .str z, .int i => if z.length ≤ sizeLine then (atI z.cps.toList i).map fun c => .str ⟨#[c]⟩ else none
  | .dct kvs, y => (getD? (.dct kvs) y).join
  | _, _ => none
def cut {α : Type} (xs : List α) (lo hi : Option Int) : List α := (xs.drop (HT.sIx xs.length 0 lo)).take (HT.sIx xs.length xs.length hi - HT.sIx xs.length 0 lo)
def evSlc : D → Option Int → Option Int → Option D
  | .scr xs, lo, hi => some (.lst (cut xs lo hi))
  | .lst xs, lo, hi => some (.lst (cut xs lo hi))
  | .str z, lo, hi => if z.length ≤ sizeLine then some (.str (Txt.slice z lo hi)) else none
  | _, _, _ => none
def insS (x : Str) : List Str → List Str
  | [] => [x]
  | y :: r => if strLt y x then y :: insS x r else x :: y :: r
def srtS : List Str → List Str
  | [] => []
  | x :: r => insS x (srtS r)
def insI (x : Int) : List Int → List Int
  | [] => [x]
  | y :: r => if y < x then y :: insI x r else x :: y :: r
def srtI : List Int → List Int
  | [] => []
  | x :: r => insI x (srtI r)
def strsD : List D → Option (List Str)
  | [] => some []
  | .str x :: r => (strsD r).map (x :: ·)
  | _ => none
def intsD : List D → Option (List Int)
  | [] => some []
  | .int x :: r => (intsD r).map (x :: ·)
  | _ => none
def boolsD : List D → Option (List Bool)
  | [] => some []
  | .bl x :: r => (boolsD r).map (x :: ·)
  | _ => none
def srtD (ds : List D) : Option D :=
  match strsD ds with
  | some xs => if xs.length < 64 then some (.lst ((srtS xs).map D.str)) else none
  | none => match intsD ds with
    | some ns => if ns.length < 64 then some (.lst ((srtI ns).map D.int)) else none
    | none => none
def evLen : List D → Option D
  | [.lst xs] => some (.int xs.length)
  | [.tup xs] => some (.int xs.length)
  | [.str z] => if z.length ≤ sizeLine then some (.int z.length) else none
  | _ => none
def evAbs : List D → Option D
  | [.int i] => some (.int (if i < 0 then -i else i))
  | _ => none
def evMax : List D → Option D
  | [.int i, .int j] => some (.int (if j > i then j else i))
  | _ => none
def evMin : List D → Option D
  | [.int i, .int j] => some (.int (if j < i then j else i))
  | _ => none
def evSorted : List D → Option D
  | [.lst xs] => srtD xs
  | [.dct kvs] => srtD (kvs.map fun kv => dKey kv.1)
  | _ => none
def evList : List D → Option D
  | [.lst xs] => some (.lst xs)
  | [.tup xs] => some (.lst xs)
  | [.dct kvs] => some (.lst (kvs.map fun kv => dKey kv.1))
  | _ => none
def evTuple : List D → Option D
  | [.lst xs] => some (.tup xs)
  | [.tup xs] => some (.tup xs)
  | _ => none
def evDict : List D → Option D
  | [.dct kvs] => some (.dct kvs)
  | _ => none
def evInt : List D → Option D
  | [.int i] => some (.int i)
  | [.bl b] => some (.int (if b then 1 else 0))
  | _ => none
def evStr : List D → Option D
  | [.int i] => if i.natAbs.log2 < 1920 then some (.str (toString i)) else none
  | _ => none
def evAll : List D → Option D
  | [.lst xs] => (boolsD xs).map fun bs => .bl (bs.all id)
  | _ => none
def evBi : Nat → List D → Option D
  | 0 => evLen | 1 => evAbs | 2 => evMax | 3 => evMin | 4 => evSorted | 5 => evList | 6 => evTuple | 7 => evDict | 8 => evInt | 9 => evStr | 10 => evAll
  | _ => fun _ => none
/-- methods that read: 0 get -/
def evBm : D → Nat → List D → Option D
  | .dct kvs, 0, [y] => (getD? (.dct kvs) y).map fun o => o.getD .non
  | .dct kvs, 0, [y, z] => (getD? (.dct kvs) y).map fun o => o.getD z
  | _, _, _ => none
/-- methods that change a list: 0 append, 1 extend, 2 insert -/
def evMut : D → Nat → List D → Option D
  | .lst xs, 0, [y] => if xs.length < sizeLine then some (.lst (xs ++ [y])) else none
  | .lst xs, 1, [.lst ys] => if xs.length + ys.length ≤ sizeLine then some (.lst (xs ++ ys)) else none
  | .lst xs, 2, [.int i, y] => if xs.length < sizeLine ∧ 0 ≤ i ∧ i < 2 ^ 63 then some (.lst (xs.take i.toNat ++ [y] ++ xs.drop i.toNat)) else none
  | _, _, _ => none
/-- the kinds that isinstance asks for: 0 int, 1 bool, 2 str, 3 tuple, 4 list, 5 dict, 6 None, 10 + c: the class c -/
def tyD : D → Option Nat
  | .int _ => some 0
  | .bl _ => some 1
  | .str _ => some 2
  | .tup _ => some 3
  | .lst _ => some 4
  | .dct _ => some 5
  | .non => some 6
  | .obj c _ => some (c + 10)
  | .exc c _ => some (c + 10)
  | _ => none
def isiL (p : Nat → Option Bool) : List Nat → Option Bool
  | [] => some false
  | t :: ts => match p t with
    | some true => some true
    | some false => isiL p ts
    | none => none
def enumD : Int → List D → List D
  | _, [] => []
  | k, x :: r => .tup [.int k, x] :: enumD (k + 1) r
def rngD : Int → Nat → List D
  | _, 0 => []
  | k, n + 1 => .int k :: rngD (k + 1) n
def zipD : List D → List D → List D
  | x :: r, y :: q => .tup [x, y] :: zipD r q
  | _, _ => []
def itD : IK → List D → Option (List D)
  | .seq, [.lst xs] => some xs
  | .seq, [.tup xs] => some xs
  | .seq, [.str z] => some (z.cps.toList.map fun c => .str ⟨#[c]⟩)
  | .key, [.dct kvs] => some (kvs.map fun kv => dKey kv.1)
  | .enum 0, [.lst xs] => some (enumD 0 xs)
  | .zip, [.lst xs, .lst ys] => some (zipD xs ys)
  | .rng, [.int j] => if -(2 ^ 62) ≤ j ∧ j < 2 ^ 62 then some (rngD 0 j.toNat) else none
  | _, _ => none
mutual
def bndT : TG → D → List Slot → Option (List Slot)
  | .nm i, d, env => some (env.set i (.frz d))
  | .tp ts, .tup ds, env => bndTs ts ds env
  | .tp ts, .lst ds, env => bndTs ts ds env
  | _, _, _ => none
def bndTs : List TG → List D → List Slot → Option (List Slot)
  | [], [], env => some env
  | t :: ts, d :: ds, env => match bndT t d env with | some env' => bndTs ts ds env' | none => none
  | _, _, _ => none
end
def wipeE (env : List Slot) : List Nat → List Slot
  | [] => env
  | v :: vs => (wipeE env vs).set v .emp
/-- the frame of a call -/
def startE (n : Nat) (ds : List D) : List Slot := ds.map Slot.frz ++ List.replicate (n - ds.length) Slot.emp
def isNode : D → Bool
  | .lst _ => true
  | .dct _ => true
  | .dctT _ => true
  | .obj _ _ => true
  | _ => false
def flat : D → Bool
  | .lst _ => false
  | .dct _ => false
  | .dctT _ => false
  | .obj _ _ => false
  | .exc _ _ => false
  | .ref _ => false
  | .scr _ => false
  | .tup xs => flats xs
  | _ => true
where flats : List D → Bool
  | [] => true
  | x :: xs => flat x && flats xs
mutual
def noRef : D → Bool
  | .lst xs => noRefs xs
  | .tup xs => noRefs xs
  | .dct kvs => noRefK kvs
  | .dctT kvs => noRefK' kvs
  | .obj _ fs => noRefF fs
  | .exc _ fs => noRefF fs
  | .ref _ => false
  | .scr _ => false
  | _ => true
def noRefs : List D → Bool
  | [] => true
  | x :: xs => noRef x && noRefs xs
def noRefK : List (Key × D) → Bool
  | [] => true
  | (_, x) :: xs => noRef x && noRefK xs
def noRefK' : List (List Key × D) → Bool
  | [] => true
  | (_, x) :: xs => noRef x && noRefK' xs
def noRefF : List (Nat × D) → Bool
  | [] => true
  | (_, x) :: xs => noRef x && noRefF xs
end
abbrev Phi := Nat → List D → Store → Rs D
def loopL (g : D → Store → Rs (Option D)) : List D → Store → Rs (List D)
  | [], S => some ([], S)
  | d :: r, S => bnd (g d S) fun o S1 => bnd (loopL g r S1) fun xs S2 => some (match o with | some x => x :: xs | none => xs, S2)
def loopK (g : D → Store → Rs (D × D)) : List D → List (Key × D) → Store → Rs (List (Key × D))
  | [], acc, S => some (acc, S)
  | d :: r, acc, S => bnd (g d S) fun p S1 => match keyD p.1 with
    | some k => loopK g r (setK acc k p.2) S1
    | none => none
def loopC (g : D → Store → Rs (List D)) : List D → Store → Rs (List D)
  | [], S => some ([], S)
  | d :: r, S => bnd (g d S) fun o S1 => bnd (loopC g r S1) fun xs S2 => some (o ++ xs, S2)
def dedup (xs : List Str) : List Str := xs.foldl (fun acc x => if x ∈ acc then acc else acc ++ [x]) []
def ssetD (ds : List D) : Option D := match strsD ds with
  | some xs => if (dedup xs).length < 64 then some (.lst ((srtS (dedup xs)).map D.str)) else none
  | none => none
def intO : D → Option (Option Int)
  | .non => some none
  | .int i => some (some i)
  | _ => none
/-- a truth value asked for -/
def bndB {β : Type} (x : Rs D) (f : Bool → Store → Rs β) : Rs β := match x with
  | some (.bl b, S) => f b S
  | _ => none
def getF (fs : List (Nat × D)) (f : Nat) : Option D := (fs.find? fun p => p.1 == f).map (·.2)
def setF (fs : List (Nat × D)) (f : Nat) (d : D) : List (Nat × D) :=
  if (fs.any fun p => p.1 == f) = true then fs.map (fun p => if p.1 == f then (p.1, d) else p) else fs ++ [(f, d)]
def lift (o : Option D) (S : Store) : Rs D := o.map fun d => (d, S)
section
variable (B : Tb) (φ : Phi)
def cmpD (o : COp) (x y : D) (S : Store) : Rs D := match x, o with
  | .obj c _, .eq => (match B.cop c .eq with | some f => φ f [x, y] S | none => none)
  | .obj c _, .ne => (match B.cop c .eq with | some f => bndB (φ f [x, y] S) fun b S1 => some (.bl (!b), S1) | none => none)
  | .obj c _, .le => (match B.cop c .le with | some f => φ f [x, y] S | none => none)
  | _, _ => (match y, o with
    | .obj c _, .in_ => (match B.cop c .in_ with | some f => φ f [y, x] S | none => none)
    | _, _ => lift ((evCmp o x y).map D.bl) S)
def binD (o : BOp) (x y : D) (S : Store) : Rs D := match x with
  | .obj c _ => (match B.bop c o with | some f => φ f [x, y] S | none => none)
  | _ => lift (evBin o x y) S
def idxD (x y : D) (S : Store) : Rs D := match x with
  | .ref n => (match S[n]?, y with
    | some (.lst ds), .int i => lift (atI ds i) S
    | _, _ => none)
  | _ => lift (evIdx x y) S
mutual
def evE : SE → List Slot → Store → Rs D
  | .bad, _, _ => none
  | .var i, env, S => (match env[i]? with | some (.frz d) => some (d, S) | _ => none)
  | .bor i, env, S => (match env[i]? with | some (.frz d) => some (d, S) | some (.own d) => some (d, S) | some (.lck d) => some (d, S) | _ => none)
  | .cint i, _, S => some (.int i, S)
  | .cstr x, _, S => some (.str x, S)
  | .cbl b, _, S => some (.bl b, S)
  | .cnon, _, S => some (.non, S)
  | .cst d, _, S => some (d, S)
  | .glb x, _, S => lift (B.glb x) S
  | .bin o a b, env, S => bnd (evE a env S) fun x S1 => bnd (evE b env S1) fun y S2 => binD B φ o x y S2
  | .neg a, env, S => bnd (evE a env S) fun x S1 => (match x with | .int i => some (.int (-i), S1) | _ => none)
  | .not_ a, env, S => bndB (evE a env S) fun b S1 => some (.bl (!b), S1)
  | .and_ a b, env, S => bndB (evE a env S) fun c S1 => if c then evE b env S1 else some (.bl false, S1)
  | .or_ a b, env, S => bndB (evE a env S) fun c S1 => if c then some (.bl true, S1) else evE b env S1
  | .cmp o a b, env, S => bnd (evE a env S) fun x S1 => bnd (evE b env S1) fun y S2 => cmpD B φ o x y S2
  | .chain o o' a b c, env, S => bnd (evE a env S) fun x S1 => bnd (evE b env S1) fun y S2 => bndB (lift ((evCmp o x y).map D.bl) S2) fun k S3 =>
      if k then bnd (evE c env S3) fun z S4 => lift ((evCmp o' y z).map D.bl) S4 else some (.bl false, S3)
  | .ite c a b, env, S => bndB (evE c env S) fun k S1 => if k then evE a env S1 else evE b env S1
  | .idx a b, env, S => bnd (evE a env S) fun x S1 => bnd (evE b env S1) fun y S2 => idxD x y S2
  | .idxT a es, env, S => bnd (evE a env S) fun x S1 => bnd (evEs es env S1) fun ds S2 => if ds.length ≤ sizeLine then lift (getT? x ds) S2 else none
  | .slc a lo hi, env, S => bnd (evE a env S) fun x S1 => bnd (evE lo env S1) fun l S2 => bnd (evE hi env S2) fun h S3 => (match intO l, intO h with
    | some l', some h' => lift (evSlc x l' h') S3
    | _, _ => none)
  | .rev a, env, S => bnd (evE a env S) fun x S1 => (match x with | .lst xs => some (.lst xs.reverse, S1) | _ => none)
  | .fld a f, env, S => bnd (evE a env S) fun x S1 => (match x with | .obj c fs => if B.fok c f then lift (getF fs f) S1 else none | .exc c fs => if B.xok c f then lift (getF fs f) S1 else none | _ => none)
  | .tup es, env, S => bnd (evEs es env S) fun ds S1 => if ds.length ≤ sizeLine then some (.tup ds, S1) else none
  | .lst es, env, S => bnd (evEs es env S) fun ds S1 => if ds.length ≤ sizeLine then some (.lst ds, S1) else none
  | .newc es, env, S => bnd (evEs es env S) fun ds S1 => if ds.length ≤ sizeLine then some (.ref S1.length, S1 ++ [.lst ds]) else none
  | .dct ks vs, env, S => (match ks, vs with
    | [], [] => some (.dct [], S)
    | [k], [v] => bnd (evE k env S) fun x S1 => bnd (evE v env S1) fun y S2 => (match keyD x with | some k' => some (.dct [(k', y)], S2) | none => none)
    | _, _ => none)
  | .dctT, _, S => some (.dctT [], S)
  | .call f es, env, S => bnd (evEs es env S) fun ds S1 => φ f ds S1
  | .pcall b f es, env, S => bnd (evEs es env S) fun ds S1 => if noRefs ds then (match φ f ds [] with
    | some (d, _) => if (if b then flat d else noRef d) then some (d, S1) else none
    | none => none) else none
  | .mk c es, env, S => bnd (evEs es env S) fun ds S1 => (match B.init c with | some f => φ f ds S1 | none => none)
  | .mth a m es, env, S => bnd (evE a env S) fun x S1 => bnd (evEs es env S1) fun ds S2 => (match x with
    | .obj c fs => if (getF fs m).isNone then (match B.meth c m with | some f => φ f (x :: ds) S2 | none => none) else none
    | _ => none)
  | .bi f es, env, S => bnd (evEs es env S) fun ds S1 => lift (evBi f ds) S1
  | .isi a ts, env, S => bnd (evE a env S) fun x S1 => (match tyD x with | some k => lift ((isiL (B.sub k) ts).map D.bl) S1 | none => none)
  | .spl a b, env, S => bnd (evE a env S) fun x S1 => bnd (evE b env S1) fun y S2 => (match x, y with
    | .str s, .str z => if (z.length == 0) = false ∧ s.length + 2 ≤ sizeLine then some (.lst ((Txt.split s z).map D.str), S2) else none
    | _, _ => none)
  | .mkx c es, env, S => bnd (evEs es env S) fun ds S1 => lift ((B.xin c ds).map (D.exc c)) S1
  | .bm a m es, env, S => bnd (evE a env S) fun x S1 => bnd (evEs es env S1) fun ds S2 => lift (evBm x m ds) S2
  | .lc vs e t k it c, env, S => bnd (evEs it env S) fun ds S1 => (match itD k ds with
    | some items => if items.length ≤ sizeLine then bnd (loopL (fun d S2 => match bndT t d (wipeE env vs) with
        | some env1 => bndB (evE c env1 S2) fun b S3 => if b then bnd (evE e env1 S3) fun x S4 => some (some x, S4) else some (none, S3)
        | none => none) items S1) fun xs S5 => some (.lst xs, S5) else none
    | none => none)
  | .lc2 vs vs1 e t k it t1 k1 it1, env, S => bnd (evEs it env S) fun ds S1 => (match itD k ds with
    | some items => bnd (loopC (fun d S2 => match bndT t d (wipeE env vs) with
        | some env1 => bnd (evEs it1 env1 S2) fun ds1 S3 => (match itD k1 ds1 with
          | some items1 => loopL (fun d1 S4 => match bndT t1 d1 (wipeE env1 vs1) with
            | some env2 => bnd (evE e env2 S4) fun x S5 => some (some x, S5)
            | none => none) items1 S3
          | none => none)
        | none => none) items S1) fun xs S5 => if xs.length ≤ sizeLine then some (.lst xs, S5) else none
    | none => none)
  | .dc vs e e' t k it, env, S => bnd (evEs it env S) fun ds S1 => (match itD k ds with
    | some items => if items.length ≤ sizeLine then bnd (loopK (fun d S2 => match bndT t d (wipeE env vs) with
        | some env1 => bnd (evE e env1 S2) fun x S3 => bnd (evE e' env1 S3) fun y S4 => some ((x, y), S4)
        | none => none) items [] S1) fun kvs S5 => some (.dct kvs, S5) else none
    | none => none)
  | .sset2 vs vs1 e t k it t1 k1 it1, env, S => bnd (evEs it env S) fun ds S1 => (match itD k ds with
    | some items => bnd (loopC (fun d S2 => match bndT t d (wipeE env vs) with
        | some env1 => bnd (evEs it1 env1 S2) fun ds1 S3 => (match itD k1 ds1 with
          | some items1 => loopL (fun d1 S4 => match bndT t1 d1 (wipeE env1 vs1) with
            | some env2 => bnd (evE e env2 S4) fun x S5 => some (some x, S5)
            | none => none) items1 S3
          | none => none)
        | none => none) items S1) fun xs S5 => lift (ssetD xs) S5
    | none => none)
  | .sset a, env, S => bnd (evE a env S) fun x S1 => (match x with | .lst xs => lift (ssetD xs) S1 | _ => none)
  | .fstr es, env, S => bnd (evEs es env S) fun ds S1 => (match strsD ds with
    | some xs => if (xs.foldl (fun a x => a + x.length) 0) ≤ sizeLine then some (.str (xs.foldl (· ++ ·) Str.empty), S1) else none
    | none => none)
def evEs : List SE → List Slot → Store → Rs (List D)
  | [], _, S => some ([], S)
  | e :: es, env, S => bnd (evE e env S) fun d S1 => bnd (evEs es env S1) fun ds S2 => some (d :: ds, S2)
end
end
end RI
end

section
namespace RI
open PySem PySem.Spec PyProof.Rows L2

inductive RS where
  | next (env : List Slot) (S : Store)
  | ret (d : D) (env : List Slot) (S : Store)
  | brk (env : List Slot) (S : Store)
  | cont (env : List Slot) (S : Store)
  | bad
def bndS (x : Rs D) (f : D → Store → RS) : RS := match x with | some (a, S) => f a S | none => .bad
def bndL (x : Rs (List D)) (f : List D → Store → RS) : RS := match x with | some (a, S) => f a S | none => .bad
def bndC (x : Rs D) (f : Bool → Store → RS) : RS := match x with
  | some (.bl b, S) => f b S
  | _ => .bad
def thnS (x : RS) (f : List Slot → Store → RS) : RS := match x with
  | .next env S => f env S
  | r => r
def optE (x : Option (List Slot)) (S : Store) : RS := match x with
  | some env => .next env S
  | none => .bad
def forL (g : D → List Slot → Store → RS) : List D → List Slot → Store → RS
  | [], env, S => .next env S
  | d :: r, env, S => match g d env S with
    | .next env1 S1 => forL g r env1 S1
    | .cont env1 S1 => forL g r env1 S1
    | .brk env1 S1 => .next env1 S1
    | .ret x env1 S1 => .ret x env1 S1
    | .bad => .bad
/-- so many turns at most; none: not through yet -/
def whileN (c : List Slot → Store → Rs D) (g : List Slot → Store → RS) : Nat → List Slot → Store → Option RS
  | 0, _, _ => none
  | n + 1, env, S => match c env S with
    | some (.bl true, S1) => (match g env S1 with
      | .next env1 S2 => whileN c g n env1 S2
      | .cont env1 S2 => whileN c g n env1 S2
      | .brk env1 S2 => some (.next env1 S2)
      | .ret x env1 S2 => some (.ret x env1 S2)
      | .bad => some .bad)
    | some (.bl false, S1) => some (.next env S1)
    | _ => some .bad
open Classical in
noncomputable def whileR (c : List Slot → Store → Rs D) (g : List Slot → Store → RS) (env : List Slot) (S : Store) : RS :=
  if h : ∃ n r, whileN c g n env S = some r then h.choose_spec.choose else .bad
theorem whileN_mono {c : List Slot → Store → Rs D} {g : List Slot → Store → RS} : ∀ {n m : Nat} {env : List Slot} {S : Store} {r : RS}, n ≤ m → whileN c g n env S = some r → whileN c g m env S = some r
  | 0, _, _, _, _, _, h => by cases h
  | n + 1, 0, _, _, _, l, _ => by omega
  | n + 1, m + 1, env, S, r, l, h => by
    have ih := fun env S r => whileN_mono (c := c) (g := g) (n := n) (m := m) (env := env) (S := S) (r := r) (by omega)
    unfold whileN at h ⊢
    split at h
    · split at h
      · exact ih _ _ _ h
      · exact ih _ _ _ h
      · exact h
      · exact h
      · exact h
    · exact h
    · exact h
theorem whileN_one {c : List Slot → Store → Rs D} {g : List Slot → Store → RS} {n m : Nat} {env : List Slot} {S : Store} {r q : RS} (h : whileN c g n env S = some r) (h' : whileN c g m env S = some q) : r = q := by
  have a := whileN_mono (Nat.le_max_left n m) h
  have b := whileN_mono (Nat.le_max_right n m) h'
  rw [a] at b
  exact Option.some.inj b
theorem whileR_eq {c : List Slot → Store → Rs D} {g : List Slot → Store → RS} {n : Nat} {env : List Slot} {S : Store} {r : RS} (h : whileN c g n env S = some r) : whileR c g env S = r := by
  unfold whileR
  have e : ∃ n r, whileN c g n env S = some r := ⟨n, r, h⟩
  rw [dif_pos e]
  exact whileN_one e.choose_spec.choose_spec h
theorem whileR_of {c : List Slot → Store → Rs D} {g : List Slot → Store → RS} {env : List Slot} {S : Store} (h : whileR c g env S ≠ .bad) : ∃ n, whileN c g n env S = some (whileR c g env S) := by
  by_cases e : ∃ n r, whileN c g n env S = some r
  · obtain ⟨n, r, q⟩ := e
    exact ⟨n, by rw [whileR_eq q]; exact q⟩
  · exact absurd (by unfold whileR; rw [dif_neg e]) h
/-- one turn -/
theorem whileR_step {c : List Slot → Store → Rs D} {g : List Slot → Store → RS} {env : List Slot} {S : Store} : whileR c g env S = (match c env S with
    | some (.bl true, S1) => (match g env S1 with
      | .next env1 S2 => whileR c g env1 S2
      | .cont env1 S2 => whileR c g env1 S2
      | .brk env1 S2 => .next env1 S2
      | .ret x env1 S2 => .ret x env1 S2
      | .bad => .bad)
    | some (.bl false, S1) => .next env S1
    | _ => .bad) := by
  have turn : ∀ n, whileN c g (n + 1) env S = (match c env S with
    | some (.bl true, S1) => (match g env S1 with
      | .next env1 S2 => whileN c g n env1 S2
      | .cont env1 S2 => whileN c g n env1 S2
      | .brk env1 S2 => some (.next env1 S2)
      | .ret x env1 S2 => some (.ret x env1 S2)
      | .bad => some .bad)
    | some (.bl false, S1) => some (.next env S1)
    | _ => some .bad) := fun n => rfl
  have go : ∀ (env1 : List Slot) (S2 : Store), (∀ n, whileN c g (n + 1) env S = whileN c g n env1 S2) → whileR c g env S = whileR c g env1 S2 := by
    intro env1 S2 h
    by_cases e : ∃ n r, whileN c g n env1 S2 = some r
    · obtain ⟨n, r, q⟩ := e
      rw [whileR_eq q]
      exact whileR_eq ((h n).trans q)
    · have e2 : ¬ ∃ n r, whileN c g n env S = some r := by
        rintro ⟨n, r, q⟩
        cases n with
        | zero => cases q
        | succ n => exact e ⟨n, r, (h n).symm.trans q⟩
      unfold whileR
      rw [dif_neg e, dif_neg e2]
  cases hc : c env S with
  | none => exact whileR_eq (n := 1) (by rw [turn, hc])
  | some p =>
    obtain ⟨d, S1⟩ := p
    cases d with
    | bl b =>
      cases b with
      | false => exact whileR_eq (n := 1) (by rw [turn, hc])
      | true =>
        cases hg : g env S1 with
        | next env1 S2 => exact (go env1 S2 fun n => by rw [turn, hc]; simp only [hg]).trans (by simp only [hg])
        | cont env1 S2 => exact (go env1 S2 fun n => by rw [turn, hc]; simp only [hg]).trans (by simp only [hg])
        | brk env1 S2 => exact whileR_eq (n := 1) (by rw [turn, hc]; simp only [hg])
        | ret x env1 S2 => exact whileR_eq (n := 1) (by rw [turn, hc]; simp only [hg])
        | bad => exact whileR_eq (n := 1) (by rw [turn, hc]; simp only [hg])
    | _ => exact whileR_eq (n := 1) (by rw [turn, hc])

def freezeE (env : List Slot) : List Nat → List Slot
  | [] => env
  | i :: is => freezeE (match env[i]? with | some (.own d) => env.set i (.frz d) | _ => env) is
def parE : List (Nat × Bool) → List D → List Slot → Option (List Slot)
  | [], [], env => some env
  | (i, o) :: ts, d :: ds, env => parE ts ds (env.set i (if o then .own d else .frz d))
  | _, _, _ => none
def ownAt (env : List Slot) (i : Nat) : Option D := match env[i]? with | some (.own d) => some d | _ => none
section
variable (B : Tb) (φ : Phi)
mutual
noncomputable def evS : SS → List Slot → Store → RS
  | .bad, _, _ => .bad
  | .pass, env, S => .next env S
  | .brk, env, S => .brk env S
  | .cont, env, S => .cont env S
  | .ret e, env, S => bndS (evE B φ e env S) fun d S1 => .ret d env S1
  | .drop e, env, S => bndS (evE B φ e env S) fun _ S1 => .next env S1
  | .asg i e, env, S => bndS (evE B φ e env S) fun d S1 => .next (env.set i (.frz d)) S1
  | .own i e, env, S => bndS (evE B φ e env S) fun d S1 => if isNode d then .next (env.set i (.own d)) S1 else .bad
  | .unp ts e, env, S => bndS (evE B φ e env S) fun d S1 => optE (bndT (.tp ts) d env) S1
  | .par ts es, env, S => bndL (evEs B φ es env S) fun ds S1 => optE (parE ts ds env) S1
  | .aug i o e, env, S => (match env[i]? with
    | some (.frz x) => bndS (evE B φ e env S) fun y S1 => (match evAug o x y with | some z => .next (env.set i (.frz z)) S1 | none => .bad)
    | _ => .bad)
  | .put i k e, env, S => bndS (evE B φ e env S) fun v S1 => bndS (evE B φ k env S1) fun y S2 => (match ownAt env i with
    | some d => (match setD? d y v with | some d' => .next (env.set i (.own d')) S2 | none => .bad)
    | none => .bad)
  | .putT i es e, env, S => bndS (evE B φ e env S) fun v S1 => bndL (evEs B φ es env S1) fun ds S2 => if ds.length ≤ sizeLine then (match ownAt env i with
    | some d => (match setT? d ds v with | some d' => .next (env.set i (.own d')) S2 | none => .bad)
    | none => .bad) else .bad
  | .putR a k e, env, S => bndS (evE B φ e env S) fun v S1 => bndS (evE B φ a env S1) fun x S2 => bndS (evE B φ k env S2) fun y S3 => (match x, y with
    | .ref n, .int i => (match S3[n]? with
      | some (.lst ds) => (match ixN ds.length i with | some j => .next env (S3.set n (.lst (ds.set j v))) | none => .bad)
      | _ => .bad)
    | _, _ => .bad)
  | .mut i m es, env, S => bndL (evEs B φ es env S) fun ds S1 => (match ownAt env i with
    | some d => (match evMut d m ds with | some d' => .next (env.set i (.own d')) S1 | none => .bad)
    | none => .bad)
  | .sfld i f e, env, S => bndS (evE B φ e env S) fun v S1 => (match ownAt env i with
    | some (.obj c fs) => if B.fok c f && decide (fs.length < 900) then .next (env.set i (.own (.obj c (setF fs f v)))) S1 else .bad
    | _ => .bad)
  | .frz is, env, S => .next (freezeE env is) S
  | .if_ c a b, env, S => bndC (evE B φ c env S) fun k S1 => if k then evSs a env S1 else evSs b env S1
  | .for_ l t k it body, env, S => (match l with
    | none => bndL (evEs B φ it env S) fun ds S1 => (match itD k ds with
      | some items => forL (fun d env1 S2 => match bndT t d env1 with | some env2 => evSs body env2 S2 | none => .bad) items env S1
      | none => .bad)
    | some i => (match ownAt env i with
      | some d0 => bndL (evEs B φ it (env.set i (.lck d0)) S) fun ds S1 => (match itD k ds with
        | some items => thnS (forL (fun d env1 S2 => match bndT t d env1 with | some env2 => evSs body env2 S2 | none => .bad) items (env.set i (.lck d0)) S1) fun env3 S3 =>
          (match env3[i]? with | some (.lck d1) => .next (env3.set i (.own d1)) S3 | _ => .bad)
        | none => .bad)
      | none => .bad))
  | .while_ c body, env, S => whileR (fun env1 S1 => evE B φ c env1 S1) (fun env1 S1 => evSs body env1 S1) env S
noncomputable def evSs : List SS → List Slot → Store → RS
  | [], env, S => .next env S
  | s :: r, env, S => thnS (evS s env S) fun env1 S1 => evSs r env1 S1
end
/-- a call of a def -/
noncomputable def runF (f : Fn) (ds : List D) (S : Store) : Rs D :=
  if ds.length = f.ps then (match f.cls with
    | none => (match evSs B φ f.body (startE f.n ds) S with
      | .next _ S1 => some (.non, S1)
      | .ret d _ S1 => some (d, S1)
      | _ => none)
    | some c => (match evSs B φ f.body ((startE f.n (.non :: ds)).set 0 (.own (.obj c []))) S with
      | .next env S1 => (ownAt env 0).map fun d => (d, S1)
      | _ => none))
  else none
/-- calls to the depth n -/
noncomputable def evC : Nat → Phi
  | 0, _, _, _ => none
  | n + 1, f, ds, S => (match B.fn f with
    | some fn => runF B (evC n) fn ds S
    | none => none)
end
end RI
end

section
namespace RI
open PySem PySem.Spec L2

section
variable (M : Nm)
def SlotOk (T : Tg) (H : Hp) (i : Nat) (o : Option (Option V)) : Option Slot → Prop
  | some (.frz d) => ∃ v, o = some (some v) ∧ Rep M T H v d
  | some (.own d) => ∃ a, o = some (some (.ref a)) ∧ T a = some (.slot i) ∧ Node M T H a d
  | some (.lck d) => ∃ a, o = some (some (.ref a)) ∧ T a = some (.slot i) ∧ NodeR M T H a d
  | _ => True
inductive CellOk (T : Tg) (H : Hp) (a : Addr) (n : Nat) : Cell → Prop
  | lst {xs : List V} {ds : List D} : H a = some (.lst xs) → RepAll M T H xs ds → CellOk T H a n (.lst ds)
structure StOk (T : Tg) (H : Hp) (S : Store) : Prop where
  cell : ∀ n c, S[n]? = some c → ∃ a, T a = some (.cell n) ∧ CellOk M T H a n c
  uniq : ∀ a b n, T a = some (.cell n) → T b = some (.cell n) → a = b
  range : ∀ a n, T a = some (.cell n) → n < S.length
structure Rel (T : Tg) (σ : St) (H : Hp) (env : List Slot) (S : Store) : Prop where
  len : σ.length = env.length
  slot : ∀ i, SlotOk M T H i σ[i]? env[i]?
  tg : ∀ a t, T a = some t → ∃ o, H a = some o
  st : StOk M T H S
end

section
variable {M : Nm} {T T' T'' : Tg} {σ : St} {H H' H'' : Hp} {env : List Slot} {S S1 : Store} {v : V} {d : D} {a : Addr} {i : Nat}
theorem SlotOk.ev (e : Ev T H T' H') {o : Option (Option V)} : ∀ {s : Option Slot}, SlotOk M T H i o s → SlotOk M T' H' i o s
  | some (.frz d), ⟨v, h, r⟩ => ⟨v, h, r.ev e⟩
  | some (.own d), ⟨a, h, t, r⟩ => ⟨a, h, e.slots a i t, r.ev e (by rw [t]; rfl)⟩
  | some (.lck d), ⟨a, h, t, r⟩ => ⟨a, h, e.slots a i t, r.ev e (by rw [t]; rfl)⟩
  | some .emp, _ => trivial
  | none, _ => trivial
/-- fewer tags -/
structure Les (T T' : Tg) : Prop where
  none : ∀ a, T a = Option.none → T' a = Option.none
  cell : ∀ a n, T a = some (.cell n) → T' a = some (.cell n)
mutual
theorem Rep.les (l : Les T T') : ∀ {v : V} {d : D}, Rep M T H v d → Rep M T' H v d
  | _, _, .non => .non
  | _, _, .bl b => .bl b
  | _, _, .int i => .int i
  | _, _, .str x => .str x
  | _, _, .tup h r => .tup h (RepAll.les l r)
  | _, _, .lst h n r => .lst h (l.none _ n) (RepAll.les l r)
  | _, _, .dct h n k r => .dct h (l.none _ n) k (RepAll.les l r)
  | _, _, .dctT h n k r => .dctT h (l.none _ n) k (RepAll.les l r)
  | _, _, .obj h n c k r => .obj h (l.none _ n) c k (RepAll.les l r)
  | _, _, .exc h h' n n' c k r => .exc h h' (l.none _ n) (l.none _ n') c k (RepAll.les l r)
  | _, _, .ref h => .ref (l.cell _ _ h)
  | _, _, .scr h r => .scr (h.imp (fun q => ⟨q.1, l.none _ q.2⟩) id) (RepAll.les l r)
theorem RepAll.les (l : Les T T') : ∀ {vs : List V} {ds : List D}, RepAll M T H vs ds → RepAll M T' H vs ds
  | _, _, .nil => .nil
  | _, _, .cons r t => .cons (Rep.les l r) (RepAll.les l t)
end
theorem Node.les (l : Les T T') (h : Node M T H a d) : Node M T' H a d := by
  cases h with
  | lst h r => exact .lst h (r.les l)
  | dct h k r => exact .dct h k (r.les l)
  | dctT h k r => exact .dctT h k (r.les l)
  | obj h c k r => exact .obj h c k (r.les l)
theorem NodeR.les (l : Les T T') (h : NodeR M T H a d) : NodeR M T' H a d := by
  cases h with
  | lst h r => exact .lst h (r.les l)
  | dct h k r => exact .dct h k (r.les l)
  | dctT h k r => exact .dctT h k (r.les l)
  | obj h c k r => exact .obj h c k (r.les l)
theorem CellOk.les {n : Nat} {c : Cell} (l : Les T T') (h : CellOk M T H a n c) : CellOk M T' H a n c := by
  cases h with
  | lst h r => exact .lst h (r.les l)
/-- a node that is given up becomes frozen -/
theorem Node.rep (h : Node M T H a d) (n : T a = none) : Rep M T H (.ref a) d := by
  cases h with
  | lst h r => exact .lst h n r
  | dct h k r => exact .dct (.inl h) n k r
  | dctT h k r => exact .dctT (.inl h) n k r
  | obj h c k r => exact .obj h n c k r
def untag (T : Tg) (a : Addr) : Tg := fun b => if b = a then none else T b
def tag (T : Tg) (a : Addr) (t : Tag) : Tg := fun b => if b = a then some t else T b
theorem untag_same : untag T a a = none := if_pos rfl
theorem untag_ne {b : Addr} (h : b ≠ a) : untag T a b = T b := if_neg h
theorem tag_same {t : Tag} : tag T a t a = some t := if_pos rfl
theorem tag_ne {b : Addr} {t : Tag} (h : b ≠ a) : tag T a t b = T b := if_neg h
theorem les_untag (h : ∀ n, T a ≠ some (.cell n)) : Les T (untag T a) :=
  ⟨fun b e => (by
    by_cases q : b = a
    · rw [q]; exact untag_same
    · rw [untag_ne q]; exact e),
   fun b n e => (by
    have q : b ≠ a := fun z => h n (by rw [← z]; exact e)
    rw [untag_ne q]; exact e)⟩
/-- the frame and the store behind a change that leaves the store's cells alone -/
theorem StOk.same (e : Ev T H T' H') (st : StOk M T H S) (hc : ∀ a n, T' a = some (.cell n) → T a = some (.cell n)) (hk : ∀ a n, T a = some (.cell n) → H' a = H a) : StOk M T' H' S :=
  ⟨fun n c h => (by
    obtain ⟨a, t, ok⟩ := st.cell n c h
    refine ⟨a, e.cells a n t, ?_⟩
    cases ok with
    | lst h2 r => exact .lst (by rw [hk a n t]; exact h2) (r.ev e)), fun a b n h h' => st.uniq a b n (hc a n h) (hc b n h'), fun a n h => st.range a n (hc a n h)⟩
theorem Rel.go (r : Rel M T σ H env S) (e : Ev T H T' H') (tg : ∀ a t, T' a = some t → ∃ o, H' a = some o) (st : StOk M T' H' S1) : Rel M T' σ H' env S1 :=
  ⟨r.len, fun i => (r.slot i).ev e, tg, st⟩
/-- a new object is laid -/
theorem ev_new {o : HO} (tg : ∀ a t, T a = some t → ∃ o, H a = some o) (h : H a = none) : Ev T H T (upd H a o) ∧ T a = none := by
  have n : T a = none := by
    cases q : T a with
    | none => rfl
    | some t => obtain ⟨o, z⟩ := tg a t q; rw [h] at z; cases z
  exact ⟨⟨fun b o' k _ => (by rw [upd_ne (ne_of_none k h)]; exact k), fun b xs k => (by rw [upd_ne (ne_of_none k h)]; exact k), fun b xs o' k => (by rw [upd_ne (ne_of_none k h)]; exact k),
    fun b t z n' => (by rw [z] at n'; cases n'), fun _ _ h => h, fun _ h => h, fun _ _ h => h, fun b u k => ⟨u, by rw [upd_ne (ne_of_none k h)]; exact k⟩⟩, n⟩
theorem Rel.laid {o : HO} (r : Rel M T σ H env S) (h : H a = none) : Ev T H T (upd H a o) ∧ Rel M T σ (upd H a o) env S ∧ T a = none := by
  obtain ⟨e, n⟩ := ev_new (o := o) r.tg h
  refine ⟨e, r.go e (fun b t z => ?_) (r.st.same e (fun _ _ h => h) fun b n' z => ?_), n⟩
  · obtain ⟨u, k⟩ := r.tg b t z
    exact ⟨u, by rw [upd_ne (ne_of_none k h)]; exact k⟩
  · obtain ⟨u, k⟩ := r.tg b _ z
    rw [upd_ne (ne_of_none k h)]
/-- a new object is laid and kept by its owner -/
theorem Rel.laidT {o : HO} {t : Tag} (r : Rel M T σ H env S) (h : H a = none) (nc : ∀ n, t ≠ .cell n) : Ev T H (tag T a t) (upd H a o) ∧ Rel M (tag T a t) σ (upd H a o) env S := by
  obtain ⟨e0, n⟩ := ev_new (o := o) r.tg h
  have ne : ∀ b t', T b = some t' → b ≠ a := fun b t' z q => by rw [q, n] at z; cases z
  have e : Ev T H (tag T a t) (upd H a o) := ⟨e0.keep, e0.tups, e0.frzs, fun b t' z n' => (by
      by_cases q : b = a
      · rw [q]; exact h
      · rw [tag_ne q, n'] at z; cases z),
    fun b n' z => (by rw [tag_ne (ne b _ z)]; exact z), fun b z => (by rw [tag_ne (ne b _ z)]; exact z), fun b i z => (by rw [tag_ne (ne b _ z)]; exact z), e0.there⟩
  refine ⟨e, r.go e (fun b t' z => ?_) (r.st.same e (fun b n' z => ?_) fun b n' z => ?_)⟩
  · by_cases q : b = a
    · exact ⟨o, by rw [q]; exact upd_same⟩
    · rw [tag_ne q] at z
      obtain ⟨u, k⟩ := r.tg b t' z
      exact ⟨u, by rw [upd_ne q]; exact k⟩
  · by_cases q : b = a
    · rw [q, tag_same] at z
      cases z
      exact absurd rfl (nc n')
    · rw [tag_ne q] at z
      exact z
  · rw [upd_ne (ne b _ z)]
end

section
variable (M : Nm) (B : Tb) (φ : Phi)
def RE (e : SE) : TE := fun σ H Q => ∃ T env S d S1, Rel M T σ H env S ∧ evE B φ e env S = some (d, S1) ∧
  ∀ v T' H', Ev T H T' H' → Rel M T' σ H' env S1 → Rep M T' H' v d → Q v H'
def RB (e : SE) : TE := fun σ H Q => ∃ T env S d S1, Rel M T σ H env S ∧ evE B φ e env S = some (d, S1) ∧
  ∀ v T' H', Ev T H T' H' → Rel M T' σ H' env S1 → RepB M T' H' v d → Q v H'
/-- a new node that nobody else knows -/
def RF (e : SE) : TE := fun σ H Q => ∃ T env S d S1, Rel M T σ H env S ∧ evE B φ e env S = some (d, S1) ∧
  ∀ a T' H', Ev T H T' H' → Rel M T' σ H' env S1 → H a = none → T' a = some .out → Node M T' H' a d → Q (.ref a) H'
def RT (e : SE) : TT := fun σ H Q => ∃ T env S b S1, Rel M T σ H env S ∧ evE B φ e env S = some (.bl b, S1) ∧
  ∀ T' H', Ev T H T' H' → Rel M T' σ H' env S1 → Q b H'
inductive RepBs (T : Tg) (H : Hp) : List V → List D → Prop
  | nil : RepBs T H [] []
  | cons {v : V} {vs : List V} {d : D} {ds : List D} : RepB M T H v d → RepBs T H vs ds → RepBs T H (v :: vs) (d :: ds)
def RAs (es : List SE) : TA := fun σ H Q => ∃ T env S ds S1, Rel M T σ H env S ∧ evEs B φ es env S = some (ds, S1) ∧
  ∀ vs T' H', Ev T H T' H' → Rel M T' σ H' env S1 → RepAll M T' H' vs ds → Q vs H'
def RBs (es : List SE) : TA := fun σ H Q => ∃ T env S ds S1, Rel M T σ H env S ∧ evEs B φ es env S = some (ds, S1) ∧
  ∀ vs T' H', Ev T H T' H' → Rel M T' σ H' env S1 → RepBs M T' H' vs ds → Q vs H'
end

theorem PE.imp {X : Cx} {e : Expr} {t t' : TE} (h : PE X e t) (i : ∀ σ H Q, t' σ H Q → t σ H Q) : PE X e t' := ⟨fun p s σ H Q I q => h.run p s σ H Q I (i σ H Q q)⟩
theorem PT.imp {X : Cx} {e : Expr} {t t' : TT} (h : PT X e t) (i : ∀ σ H Q, t' σ H Q → t σ H Q) : PT X e t' := ⟨fun p s σ H Q I q => h.run p s σ H Q I (i σ H Q q)⟩
theorem PA.imp {X : Cx} {e : List Expr} {t t' : TA} (h : PA X e t) (i : ∀ σ H Q, t' σ H Q → t σ H Q) : PA X e t' := ⟨fun o p s σ H Q I q => h.run o p s σ H Q I (i σ H Q q)⟩
theorem PS.imp {X : Cx} {e : Stmt} {t t' : TS} (h : PS X e t) (i : ∀ D σ H, t' D σ H → t D σ H) : PS X e t' := ⟨fun p s σ H D I q => h.run p s σ H D I (i D σ H q)⟩
theorem PSs.imp {X : Cx} {e : List Stmt} {t t' : TS} (h : PSs X e t) (i : ∀ D σ H, t' D σ H → t D σ H) : PSs X e t' := ⟨fun p s σ H D I q => h.run p s σ H D I (i D σ H q)⟩

theorem bnd_eq {α β : Type} {x : Rs α} {f : α → Store → Rs β} {r : β × Store} (h : bnd x f = some r) : ∃ a S, x = some (a, S) ∧ f a S = some r := by
  cases x with
  | none => cases h
  | some p => exact ⟨p.1, p.2, rfl, h⟩
theorem bndB_eq {β : Type} {x : Rs D} {f : Bool → Store → Rs β} {r : β × Store} (h : bndB x f = some r) : ∃ b S, x = some (.bl b, S) ∧ f b S = some r := by
  unfold bndB at h
  split at h
  · rename_i b S
    exact ⟨b, S, rfl, h⟩
  · cases h
theorem lift_eq {o : Option D} {S : Store} {d : D} {S1 : Store} (h : lift o S = some (d, S1)) : o = some d ∧ S1 = S := by
  cases o with
  | none => cases h
  | some x =>
    have e : (x, S) = (d, S1) := Option.some.inj h
    cases e
    exact ⟨rfl, rfl⟩

section
variable {X : Cx} {M : Nm} {B : Tb} {φ : Phi} {a b c : Expr} {sa sb sc : SE} {pos : Pos}
theorem re_bad : PE X a (RE M B φ .bad) := ⟨fun p s σ H Q I q => by
  obtain ⟨T, env, S, d, S1, _, h, _⟩ := q
  cases h⟩
theorem re_rb (h : PE X a (RE M B φ sa)) : PE X a (RB M B φ sa) := PE.imp h fun σ H Q ⟨T, env, S, d, S1, r, e, k⟩ => ⟨T, env, S, d, S1, r, e, fun v T' H' ev rl rp => k v T' H' ev rl rp.b⟩
theorem re_var {i : Nat} {x : Str} (hN : X.N[i]? = some x) (hv : Vis X.env.scope x) (hd : (x == ("__debug__" : Str)) = false) (hcd : (x == ("__classdict__" : Str)) = false) : PE X (.Name x pos) (RE M B φ (.var i)) :=
  PE.imp (pe_var hN hv hd hcd) fun σ H Q ⟨T, env, S, d, S1, r, e, k⟩ => by
    simp only [evE] at e
    have s := r.slot i
    split at e
    · rename_i d' q
      cases e
      rw [q] at s
      obtain ⟨v, h, rp⟩ := s
      exact ⟨v, h, k v T H .refl r rp⟩
    · cases e
theorem rb_bor {i : Nat} {x : Str} (hN : X.N[i]? = some x) (hv : Vis X.env.scope x) (hd : (x == ("__debug__" : Str)) = false) (hcd : (x == ("__classdict__" : Str)) = false) : PE X (.Name x pos) (RB M B φ (.bor i)) :=
  PE.imp (pe_var hN hv hd hcd) fun σ H Q ⟨T, env, S, d, S1, r, e, k⟩ => by
    simp only [evE] at e
    have s := r.slot i
    split at e
    · rename_i d' q
      cases e
      rw [q] at s
      obtain ⟨v, h, rp⟩ := s
      exact ⟨v, h, k v T H .refl r rp.b⟩
    · rename_i d' q
      cases e
      rw [q] at s
      obtain ⟨y, h, t, rp⟩ := s
      exact ⟨.ref y, h, k _ T H .refl r (.inr ⟨y, i, rfl, t, rp.r⟩)⟩
    · rename_i d' q
      cases e
      rw [q] at s
      obtain ⟨y, h, t, rp⟩ := s
      exact ⟨.ref y, h, k _ T H .refl r (.inr ⟨y, i, rfl, t, rp⟩)⟩
    · cases e
theorem re_int {i : Int} {j : Nat} : PE X (.Constant (.int i) j pos) (RE M B φ (.cint i)) := PE.imp pe_int fun σ H Q ⟨T, env, S, d, S1, r, e, k⟩ => by
  simp only [evE] at e; cases e; exact k _ T H .refl r (.int i)
theorem re_str {x : Str} {j : Nat} : PE X (.Constant (.str x) j pos) (RE M B φ (.cstr x)) := PE.imp pe_str fun σ H Q ⟨T, env, S, d, S1, r, e, k⟩ => by
  simp only [evE] at e; cases e; exact k _ T H .refl r (.str x)
theorem re_bl {x : Bool} {j : Nat} : PE X (.Constant (.bool x) j pos) (RE M B φ (.cbl x)) := PE.imp pe_bl fun σ H Q ⟨T, env, S, d, S1, r, e, k⟩ => by
  simp only [evE] at e; cases e; exact k _ T H .refl r (.bl x)
theorem re_non {j : Nat} : PE X (.Constant .none j pos) (RE M B φ .cnon) := PE.imp pe_non fun σ H Q ⟨T, env, S, d, S1, r, e, k⟩ => by
  simp only [evE] at e; cases e; exact k _ T H .refl r .non
theorem re_glb {x : Str} {g : Nat} {v : V} {u : Value} (hg : Gl X x) (hm : X.mg x = some u) (rv : RelV v u) (hd : (x == ("__debug__" : Str)) = false) (hr : ∀ d, B.glb g = some d → ∀ T H, Rep M T H v d) : PE X (.Name x pos) (RE M B φ (.glb g)) :=
  PE.imp (pe_glob hg hm rv hd) fun σ H Q ⟨T, env, S, d, S1, r, e, k⟩ => by
    simp only [evE] at e
    obtain ⟨e1, rfl⟩ := lift_eq e
    exact k v T H .refl r (hr d e1 T H)
end
end RI
end

section
namespace RI
open PySem PySem.Spec L2

section
variable {M : Nm} {T T' T'' : Tg} {σ : L2.St} {H H' H'' : Hp} {env : List Slot} {S S1 S2 : Store} {v : V} {d : D} {a : Addr} {i : Nat}
/-- a new node is given up -/
theorem Rel.freeze (r : Rel M T σ H env S) (ev : Ev T H T' H') (rl : Rel M T' σ H' env S1) {x : Addr} (hn : H x = none) (tx : T' x = some .out) (nd : Node M T' H' x d) :
    Ev T H (untag T' x) H' ∧ Rel M (untag T' x) σ H' env S1 ∧ Rep M (untag T' x) H' (.ref x) d := by
  have nt : T x = none := by
    cases q : T x with
    | none => rfl
    | some t => obtain ⟨o, z⟩ := r.tg x t q; rw [hn] at z; cases z
  have le : Les T' (untag T' x) := les_untag fun n z => by rw [tx] at z; cases z
  have ne : ∀ b t', T b = some t' → b ≠ x := fun b t' z q => by rw [q, nt] at z; cases z
  have ev' : Ev T H (untag T' x) H' := ⟨ev.keep, ev.tups, ev.frzs, fun b t z n => (by
      by_cases q : b = x
      · rw [q, untag_same] at z; cases z
      · rw [untag_ne q] at z; exact ev.new b t z n),
    fun b n z => (by rw [untag_ne (ne b _ z)]; exact ev.cells b n z), fun b z => (by rw [untag_ne (ne b _ z)]; exact ev.outs b z), fun b i z => (by rw [untag_ne (ne b _ z)]; exact ev.slots b i z), ev.there⟩
  have nb : ∀ b t', T' b = some t' → t' ≠ .out → b ≠ x := fun b t' z q w => by rw [w, tx] at z; cases z; exact q rfl
  refine ⟨ev', ⟨rl.len, fun i => ?_, fun b t z => ?_, ?_⟩, (nd.les le).rep untag_same⟩
  · have s := rl.slot i
    cases q : env[i]? with
    | none => trivial
    | some sl =>
      rw [q] at s
      cases sl with
      | emp => trivial
      | frz d => obtain ⟨v, h, rp⟩ := s; exact ⟨v, h, rp.les le⟩
      | own d => obtain ⟨y, h, t, rp⟩ := s; exact ⟨y, h, by rw [untag_ne (nb y _ t (by intro z; cases z))]; exact t, rp.les le⟩
      | lck d => obtain ⟨y, h, t, rp⟩ := s; exact ⟨y, h, by rw [untag_ne (nb y _ t (by intro z; cases z))]; exact t, rp.les le⟩
  · by_cases q : b = x
    · rw [q, untag_same] at z; cases z
    · rw [untag_ne q] at z; exact rl.tg b t z
  · refine ⟨fun n cl h => ?_, fun y z n h h' => ?_, fun y n h => ?_⟩
    · obtain ⟨y, t, ok⟩ := rl.st.cell n cl h
      exact ⟨y, by rw [untag_ne (nb y _ t (by intro z; cases z))]; exact t, ok.les le⟩
    · by_cases q : y = x
      · rw [q, untag_same] at h; cases h
      · by_cases q' : z = x
        · rw [q', untag_same] at h'; cases h'
        · rw [untag_ne q] at h; rw [untag_ne q'] at h'
          exact rl.st.uniq y z n h h'
    · by_cases q : y = x
      · rw [q, untag_same] at h; cases h
      · rw [untag_ne q] at h; exact rl.st.range y n h
end
section
variable (M : Nm) (B : Tb) (φ : Phi)
/-- a node is new, anything else stands -/
def New (T' : Tg) (H H' : Hp) (v : V) (d : D) : Prop := match isNode d with
  | true => ∃ a, v = .ref a ∧ H a = none ∧ T' a = some .out ∧ Node M T' H' a d
  | false => Rep M T' H' v d
def RX (e : SE) : TE := fun σ H Q => ∃ T env S d S1, Rel M T σ H env S ∧ evE B φ e env S = some (d, S1) ∧
  ∀ v T' H', Ev T H T' H' → Rel M T' σ H' env S1 → New M T' H H' v d → Q v H'
end
section
variable {X : Cx} {M : Nm} {B : Tb} {φ : Phi} {a b c : Expr} {sa sb sc : SE} {pos : Pos} {T T1 T2 T3 : Tg} {σ : L2.St} {H H1 H2 : Hp} {env : List Slot} {S S1 S2 S3 : Store} {x y z : D} {u v : V}
theorem rx_re (h : PE X a (RX M B φ sa)) : PE X a (RE M B φ sa) := PE.imp h fun σ H Q ⟨T, env, S, d, S1, r, e, k⟩ => ⟨T, env, S, d, S1, r, e, fun v T' H' ev rl n => by
  unfold New at n
  cases q : isNode d with
  | true =>
    rw [q] at n
    obtain ⟨y, rfl, hn, tx, nd⟩ := n
    obtain ⟨e1, r1, p1⟩ := r.freeze ev rl hn tx nd
    exact k _ _ _ e1 r1 p1
  | false =>
    rw [q] at n
    exact k v T' H' ev rl n⟩
theorem rx_of (h : PE X a (RE M B φ sa)) (n : ∀ env S d S1, evE B φ sa env S = some (d, S1) → isNode d = false) : PE X a (RX M B φ sa) := PE.imp h fun σ H Q ⟨T, env, S, d, S1, r, e, k⟩ => ⟨T, env, S, d, S1, r, e, fun v T' H' ev rl rp => k v T' H' ev rl (by unfold New; rw [n _ _ _ _ e]; exact rp)⟩
/-- two operands, one after the other -/
theorem go2 {P : V → V → Hp → Prop} (r : Rel M T σ H env S) (e1 : evE B φ sa env S = some (x, S1)) (e2 : evE B φ sb env S1 = some (y, S2))
    (k : ∀ u v T2 H2, Ev T H T2 H2 → Rel M T2 σ H2 env S2 → RepB M T2 H2 u x → RepB M T2 H2 v y → P u v H2) : RB M B φ sa σ H fun u H1 => RB M B φ sb σ H1 fun v H2 => P u v H2 :=
  ⟨T, env, S, x, S1, r, e1, fun u T1 H1 ev1 r1 p1 => ⟨T1, env, S1, y, S2, r1, e2, fun v T2 H2 ev2 r2 p2 => k u v T2 H2 (ev1.then ev2) r2 (p1.ev ev2) p2⟩⟩
theorem go3 {P : V → V → V → Hp → Prop} (r : Rel M T σ H env S) (e1 : evE B φ sa env S = some (x, S1)) (e2 : evE B φ sb env S1 = some (y, S2)) (e3 : evE B φ sc env S2 = some (z, S3))
    (k : ∀ u v w T2 H2, Ev T H T2 H2 → Rel M T2 σ H2 env S3 → RepB M T2 H2 u x → RepB M T2 H2 v y → RepB M T2 H2 w z → P u v w H2) :
    RB M B φ sa σ H fun u H1 => RB M B φ sb σ H1 fun v H2 => RB M B φ sc σ H2 fun w H3 => P u v w H3 :=
  ⟨T, env, S, x, S1, r, e1, fun u T1 H1 ev1 r1 p1 => ⟨T1, env, S1, y, S2, r1, e2, fun v T2 H2 ev2 r2 p2 => ⟨T2, env, S2, z, S3, r2, e3, fun w T3 H3 ev3 r3 p3 => k u v w T3 H3 ((ev1.then ev2).then ev3) r3 ((p1.ev ev2).ev ev3) (p2.ev ev3) p3⟩⟩⟩

theorem RepB.int {i : Int} (h : RepB M T H v (.int i)) : v = .int i := by
  rcases h with h | ⟨a, j, _, _, h⟩
  · cases h; rfl
  · cases h
theorem RepB.str {i : Str} (h : RepB M T H v (.str i)) : v = .str i := by
  rcases h with h | ⟨a, j, _, _, h⟩
  · cases h; rfl
  · cases h
theorem RepB.bl {i : Bool} (h : RepB M T H v (.bl i)) : v = .bl i := by
  rcases h with h | ⟨a, j, _, _, h⟩
  · cases h; rfl
  · cases h
theorem RepB.non (h : RepB M T H v .non) : v = .non := by
  rcases h with h | ⟨a, j, _, _, h⟩
  · cases h; rfl
  · cases h
theorem RepB.lst {ds : List D} (h : RepB M T H v (.lst ds)) : ∃ a xs, v = .ref a ∧ H a = some (.lst xs) ∧ RepAll M T H xs ds := by
  rcases h with h | ⟨a, j, rfl, _, h⟩
  · cases h with
    | lst h n r => exact ⟨_, _, rfl, h, r⟩
  · cases h with
    | lst h r => exact ⟨_, _, rfl, h, r⟩
theorem RepB.tup {ds : List D} (h : RepB M T H v (.tup ds)) : ∃ a xs, v = .ref a ∧ SqT M.K H a xs ∧ RepAll M T H xs ds := by
  rcases h with h | ⟨a, j, rfl, _, h⟩
  · cases h with
    | tup h r => exact ⟨_, _, rfl, h, r⟩
  · cases h
theorem RepB.scr {ds : List D} (h : RepB M T H v (.scr ds)) : ∃ a xs, v = .ref a ∧ SqL M.K H a xs ∧ RepAll M T H xs ds := by
  rcases h with h | ⟨a, j, rfl, _, h⟩
  · cases h with
    | scr h r => exact ⟨_, _, rfl, scr_sql h, r⟩
  · cases h
theorem RepB.dct {ds : List (Key × D)} (h : RepB M T H v (.dct ds)) : ∃ a kvs, v = .ref a ∧ Rd H a (.dK kvs) ∧ kvs.map Prod.fst = ds.map Prod.fst ∧ RepAll M T H (kvs.map Prod.snd) (ds.map Prod.snd) := by
  rcases h with h | ⟨a, j, rfl, _, h⟩
  · cases h with
    | dct h n k r => exact ⟨_, _, rfl, h, k, r⟩
  · cases h with
    | dct h k r => exact ⟨_, _, rfl, h, k, r⟩
theorem RepB.dctT {ds : List (List Key × D)} (h : RepB M T H v (.dctT ds)) : ∃ a kvs, v = .ref a ∧ Rd H a (.dT kvs) ∧ kvs.map Prod.fst = ds.map Prod.fst ∧ RepAll M T H (kvs.map Prod.snd) (ds.map Prod.snd) := by
  rcases h with h | ⟨a, j, rfl, _, h⟩
  · cases h with
    | dctT h n k r => exact ⟨_, _, rfl, h, k, r⟩
  · cases h with
    | dctT h k r => exact ⟨_, _, rfl, h, k, r⟩
theorem RepAll.length : ∀ {vs : List V} {ds : List D}, RepAll M T H vs ds → vs.length = ds.length
  | _, _, .nil => rfl
  | _, _, .cons _ t => by rw [List.length_cons, List.length_cons, RepAll.length t]
theorem RepAll.get : ∀ {vs : List V} {ds : List D} {i : Nat} {d : D}, RepAll M T H vs ds → ds[i]? = some d → ∃ v, vs[i]? = some v ∧ Rep M T H v d
  | _, _, _, _, .nil, e => by simp at e
  | _, _, 0, _, .cons r _, e => by simp at e; subst e; exact ⟨_, rfl, r⟩
  | _, _, i + 1, _, .cons _ t, e => by simpa using RepAll.get t (by simpa using e)
theorem RepAll.append : ∀ {vs ws : List V} {ds es : List D}, RepAll M T H vs ds → RepAll M T H ws es → RepAll M T H (vs ++ ws) (ds ++ es)
  | _, _, _, _, .nil, q => q
  | _, _, _, _, .cons r t, q => .cons r (RepAll.append t q)
theorem RepAll.take : ∀ {vs : List V} {ds : List D} (n : Nat), RepAll M T H vs ds → RepAll M T H (vs.take n) (ds.take n)
  | _, _, 0, _ => .nil
  | _, _, _ + 1, .nil => .nil
  | _, _, n + 1, .cons r t => .cons r (RepAll.take n t)
theorem RepAll.drop : ∀ {vs : List V} {ds : List D} (n : Nat), RepAll M T H vs ds → RepAll M T H (vs.drop n) (ds.drop n)
  | _, _, 0, r => r
  | _, _, _ + 1, .nil => .nil
  | _, _, n + 1, .cons _ t => RepAll.drop n t
theorem RepAll.set : ∀ {vs : List V} {ds : List D} {w : V} {e : D} (i : Nat), RepAll M T H vs ds → Rep M T H w e → RepAll M T H (vs.set i w) (ds.set i e)
  | _, _, _, _, _, .nil, _ => .nil
  | _, _, _, _, 0, .cons _ t, q => .cons q t
  | _, _, _, _, i + 1, .cons r t, q => .cons r (RepAll.set i t q)
theorem RepAll.rev : ∀ {vs : List V} {ds : List D}, RepAll M T H vs ds → RepAll M T H vs.reverse ds.reverse
  | _, _, .nil => .nil
  | _, _, .cons r t => by rw [List.reverse_cons, List.reverse_cons]; exact (RepAll.rev t).append (.cons r .nil)
theorem RepAll.cutA {vs : List V} {ds : List D} (r : RepAll M T H vs ds) (lo hi : Option Int) : RepAll M T H (cutV vs lo hi) (cut ds lo hi) := by
  unfold cutV cut
  rw [r.length]
  exact (r.drop _).take _
/-- a new list, told new -/
theorem new_lst {xs : List V} {ds : List D} {p : Addr} (r : Rel M T σ H env S) (hp : H p = none) (h : RepAll M T H xs ds) :
    Ev T H (tag T p .out) (upd H p (.lst xs)) ∧ Rel M (tag T p .out) σ (upd H p (.lst xs)) env S ∧ Node M (tag T p .out) (upd H p (.lst xs)) p (.lst ds) := by
  obtain ⟨e, r1⟩ := r.laidT (o := .lst xs) (t := .out) hp (by intro n z; cases z)
  exact ⟨e, r1, .lst upd_same (h.ev e)⟩
theorem new_tup {xs : List V} {ds : List D} {p : Addr} (r : Rel M T σ H env S) (hp : H p = none) (h : RepAll M T H xs ds) :
    Ev T H T (upd H p (.tup xs)) ∧ Rel M T σ (upd H p (.tup xs)) env S ∧ Rep M T (upd H p (.tup xs)) (.ref p) (.tup ds) := by
  obtain ⟨e, r1, _⟩ := r.laid (o := .tup xs) hp
  exact ⟨e, r1, .tup (.inl (.inl upd_same)) (h.ev e)⟩
/-- what is new now was new before -/
theorem ev_free (e : Ev T H T1 H1) {p : Addr} (h : H1 p = none) : H p = none := by
  cases q : H p with
  | none => rfl
  | some o => obtain ⟨o', w⟩ := e.there p o q; rw [h] at w; cases w
end
end RI
end

section
namespace RI
open PySem PySem.Spec L2
section
variable {X : Cx} {M : Nm} {B : Tb} {φ : Phi} {a b c : Expr} {sa sb sc : SE} {pos : Pos} {T T1 T2 T3 : Tg} {σ : L2.St} {H H1 H2 : Hp} {env : List Slot} {S S1 S2 S3 : Store} {x y z : D} {u v : V}

theorem new_of (n : isNode x = false) (h : Rep M T H1 v x) : New M T H H1 v x := by unfold New; rw [n]; exact h
theorem new_node {p : Addr} (n : isNode x = true) (e : H p = none) (t : T p = some .out) (h : Node M T H1 p x) : New M T H H1 (.ref p) x := by unfold New; rw [n]; exact ⟨p, rfl, e, t, h⟩

/-- an operator's values, by what is reckoned -/
def BinR (X : Cx) (M : Nm) (B : Tb) (φ : Phi) (f : Value → Value → Sem Value) (g : D → D → Store → Rs D) : Prop :=
  ∃ r : R2, OpR X f r ∧ ∀ (T : Tg) (σ : L2.St) (H : Hp) (env : List Slot) (S S1 : Store) (x y d : D) (u v : V) (Q : VK), Rel M T σ H env S → RepB M T H u x → RepB M T H v y → g x y S = some (d, S1) →
    (∀ w T' H', Ev T H T' H' → Rel M T' σ H' env S1 → New M T' H H' w d → Q w H') → r u v H Q

def CMulA (i j : Int) : Prop := i.natAbs < 2 ^ 64 ∨ j.natAbs < 2 ^ 64 ∨ i.natAbs.log2 + j.natAbs.log2 < 134000000
theorem CMulA.ok {i j : Int} (h : CMulA i j) : IntMulOk i j := by
  rcases h with h | h | h
  · exact CMul.ok (.inl (by omega))
  · exact CMul.ok (.inr (by omega))
  · refine CMulX.ok ?_
    have b : ∀ x : Int, Builtin.Int.intBits x ≤ x.natAbs.log2 + 1 := fun x => by
      unfold Builtin.Int.intBits
      split <;> omega
    have h1 := b i
    have h2 := b j
    unfold CMulX
    omega
theorem op_mulA : OpR X (binaryOp .Mult) (rI CMulA fun i j => .int (i * j)) := opI fun _ _ _ _ _ _ _ hc q => PyProof.Rows.mul_int q (CMulA.ok hc)
def CDivA (_ j : Int) : Prop := j ≠ 0 ∧ j.natAbs.log2 < 9000
theorem op_fdivA : OpR X (binaryOp .FloorDiv) (rI CDivA fun i j => .int (i.fdiv j)) := opI fun _ _ _ _ _ _ _ hc q => PyProof.Rows.floordiv_int hc.1 q (.inl (PyProof.noPylong_of_log2 hc.2))

/-- without objects of one's own -/
def noObj : D → Bool
  | .obj _ _ => false
  | _ => true
theorem evAdd_eq (e : evAdd x y = some z) : (∃ i j, x = .int i ∧ y = .int j ∧ z = .int (i + j)) ∨ (∃ i j, x = .str i ∧ y = .str j ∧ i.length + j.length ≤ sizeLine ∧ z = .str (i ++ j)) ∨
    ∃ xs ys, x = .lst xs ∧ y = .lst ys ∧ xs.length + ys.length ≤ sizeLine ∧ z = .lst (xs ++ ys) := by
  unfold evAdd at e
  split at e
  · cases e; exact .inl ⟨_, _, rfl, rfl, rfl⟩
  · split at e
    · rename_i h; cases e; exact .inr (.inl ⟨_, _, rfl, rfl, h, rfl⟩)
    · cases e
  · split at e
    · rename_i h; cases e; exact .inr (.inr ⟨_, _, rfl, rfl, h, rfl⟩)
    · cases e
  · cases e
theorem evInts_eq {f : Int → Int → Option Int} (e : evInts f x y = some z) : ∃ i j k, x = .int i ∧ y = .int j ∧ f i j = some k ∧ z = .int k := by
  unfold evInts at e
  split at e
  · rename_i i j
    cases q : f i j with
    | none => rw [q] at e; cases e
    | some k => rw [q] at e; cases e; exact ⟨i, j, k, rfl, rfl, q, rfl⟩
  · cases e
theorem br_add : BinR X M B φ (binaryOp .Add) (fun x y S => lift (evBin .add x y) S) := by
  refine ⟨_, (op_add.or op_add_str).or op_cat, fun T σ H env S S1 x y d u v Q r hu hv e k => ?_⟩
  obtain ⟨e1, rfl⟩ := lift_eq e
  rcases evAdd_eq e1 with ⟨i, j, rfl, rfl, rfl⟩ | ⟨i, j, rfl, rfl, hl, rfl⟩ | ⟨xs, ys, rfl, rfl, hl, rfl⟩
  · exact .inl (.inl ⟨_, _, hu.int, hv.int, k _ T H .refl r (new_of rfl (.int _))⟩)
  · exact .inl (.inr ⟨_, _, hu.str, hv.str, hl, k _ T H .refl r (new_of rfl (.str _))⟩)
  · obtain ⟨p, us, rfl, hp, ru⟩ := hu.lst
    obtain ⟨q, vs, rfl, hq, rv⟩ := hv.lst
    refine .inr ⟨p, q, us, vs, rfl, rfl, hp, hq, by rw [ru.length, rv.length]; exact hl, fun l hn => ?_⟩
    obtain ⟨ev, r1, nd⟩ := new_lst r hn (ru.append rv)
    exact k _ _ _ ev r1 (new_node rfl hn tag_same nd)
theorem br_int {f : Value → Value → Sem Value} {C : Int → Int → Prop} {g : Int → Int → Int} {o : BOp} {ff : Int → Int → Option Int} (h : OpR X f (rI C fun i j => .int (g i j))) (ho : evBin o = evInts ff)
    (hg : ∀ i j k, ff i j = some k → C i j ∧ k = g i j) : BinR X M B φ f (fun x y S => lift (evBin o x y) S) := by
  refine ⟨_, h, fun T σ H env S S1 x y d u v Q r hu hv e k => ?_⟩
  obtain ⟨e1, rfl⟩ := lift_eq e
  rw [ho] at e1
  obtain ⟨i, j, n, rfl, rfl, q, rfl⟩ := evInts_eq e1
  obtain ⟨hc, rfl⟩ := hg i j n q
  exact ⟨i, j, hu.int, hv.int, hc, k _ T H .refl r (new_of rfl (.int _))⟩
theorem br_sub : BinR X M B φ (binaryOp .Sub) (fun x y S => lift (evBin .sub x y) S) := by
  refine ⟨_, op_sub, fun T σ H env S S1 x y d u v Q r hu hv e k => ?_⟩
  obtain ⟨e1, rfl⟩ := lift_eq e
  obtain ⟨i, j, n, rfl, rfl, q, rfl⟩ := evInts_eq (f := fSub) e1
  cases q
  exact ⟨_, _, hu.int, hv.int, k _ T H .refl r (new_of rfl (.int _))⟩
theorem br_mul : BinR X M B φ (binaryOp .Mult) (fun x y S => lift (evBin .mul x y) S) := br_int (ff := fMul) op_mulA rfl fun i j k e => by
  unfold fMul at e
  split at e
  · rename_i h
    cases e
    refine ⟨?_, rfl⟩
    unfold mulOk at h
    rcases Bool.or_eq_true_iff.mp h with h | h
    · exact .inl (of_decide_eq_true h)
    · rcases Bool.or_eq_true_iff.mp h with h | h
      · exact .inr (.inl (of_decide_eq_true h))
      · exact .inr (.inr (of_decide_eq_true h))
  · cases e
theorem br_fdiv : BinR X M B φ (binaryOp .FloorDiv) (fun x y S => lift (evBin .fdiv x y) S) := br_int (ff := fDiv) op_fdivA rfl fun i j k e => by
  unfold fDiv at e
  split at e
  · rename_i h
    cases e
    unfold divOk at h
    obtain ⟨h1, h2⟩ := Bool.and_eq_true_iff.mp h
    exact ⟨⟨of_decide_eq_true h1, of_decide_eq_true h2⟩, rfl⟩
  · cases e
theorem br_mod : BinR X M B φ (binaryOp .Mod) (fun x y S => lift (evBin .mod x y) S) := br_int (ff := fMod) op_mod rfl fun i j k e => by
  unfold fMod at e
  split at e
  · rename_i h
    cases e
    exact ⟨h, rfl⟩
  · cases e

/-- an object's own operator -/
def ObjR (X : Cx) (M : Nm) (B : Tb) (φ : Phi) (f : Value → Value → Sem Value) (o : BOp) : Prop :=
  ∃ r : R2, OpR X f r ∧ ∀ (T : Tg) (σ : L2.St) (H : Hp) (env : List Slot) (S S1 : Store) (c : Nat) (fs : List (Nat × D)) (y d : D) (u v : V) (Q : VK), Rel M T σ H env S → RepB M T H u (.obj c fs) → RepB M T H v y → binD B φ o (.obj c fs) y S = some (d, S1) →
    (∀ w T' H', Ev T H T' H' → Rel M T' σ H' env S1 → New M T' H H' w d → Q w H') → r u v H Q
theorem ObjR.none {f : Value → Value → Sem Value} {o : BOp} (h : ∀ c o, B.bop c o = Option.none) : ObjR X M B φ f o :=
  ⟨fun _ _ _ _ => False, fun _ _ _ _ _ _ _ _ _ _ _ _ q => q.elim, fun T σ H env S S1 c fs y d u v Q _ _ _ e _ => by simp [binD, h] at e⟩
theorem rx_bin {op : Operator} {o : BOp} (h : BinR X M B φ (binaryOp op) (fun x y S => lift (evBin o x y) S)) (ho : ObjR X M B φ (binaryOp op) o) (ha : PE X a (RB M B φ sa)) (hb : PE X b (RB M B φ sb)) :
    PE X (.BinOp a op b pos) (RX M B φ (.bin o sa sb)) := by
  obtain ⟨r1, h1, k1⟩ := h
  obtain ⟨r2, h2, k2⟩ := ho
  refine PE.imp (pe_op (h1.or h2) ha hb) fun σ H Q ⟨T, env, S, d, S1, r, e, k⟩ => ?_
  simp only [evE] at e
  obtain ⟨x, Sx, ex, e⟩ := bnd_eq e
  obtain ⟨y, Sy, ey, e⟩ := bnd_eq e
  refine go2 r ex ey fun u v T2 H2 ev rl pu pv => ?_
  have fin : ∀ w T' H', Ev T2 H2 T' H' → Rel M T' σ H' env S1 → New M T' H2 H' w d → Q w H' := fun w T' H' ev' rl' nw => by
    refine k w T' H' (ev.then ev') rl' ?_
    unfold New at nw ⊢
    cases q : isNode d with
    | false => rw [q] at nw; exact nw
    | true => rw [q] at nw; obtain ⟨p, e1, e2, e3⟩ := nw; exact ⟨p, e1, ev_free ev e2, e3⟩
  cases x with
  | obj c fs => exact .inr (k2 T2 σ H2 env Sy S1 c fs y d u v Q rl pu pv e fin)
  | _ => exact .inl (k1 T2 σ H2 env Sy S1 _ y d u v Q rl pu pv e fin)
theorem re_neg (ha : PE X a (RB M B φ sa)) : PE X (.UnaryOp .USub a pos) (RE M B φ (.neg sa)) := PE.imp (pe_un un_neg ha) fun σ H Q ⟨T, env, S, d, S1, r, e, k⟩ => by
  simp only [evE] at e
  obtain ⟨x, Sx, ex, e⟩ := bnd_eq e
  split at e
  · rename_i i
    cases e
    exact ⟨T, env, S, _, _, r, ex, fun v T' H' ev rl p => ⟨i, p.int, k _ T' H' ev rl (.int _)⟩⟩
  · cases e
theorem re_not (ha : PE X a (RB M B φ sa)) : PE X (.UnaryOp .Not a pos) (RE M B φ (.not_ sa)) := PE.imp (pe_not ha) fun σ H Q ⟨T, env, S, d, S1, r, e, k⟩ => by
  simp only [evE] at e
  obtain ⟨x, Sx, ex, e⟩ := bndB_eq e
  cases e
  exact ⟨T, env, S, _, _, r, ex, fun v T' H' ev rl p => ⟨x, p.bl, k _ T' H' ev rl (.bl _)⟩⟩
end
end RI
end

section
namespace RI
open PySem PySem.Spec L2
section
variable {X : Cx} {M : Nm} {B : Tb} {φ : Phi} {a b c : Expr} {sa sb sc : SE} {pos : Pos} {rest : List Expr} {T T1 T2 T3 : Tg} {σ : L2.St} {H H1 H2 : Hp} {env : List Slot} {S S1 S2 S3 : Store} {x y z : D} {u v : V}
theorem re_one {op} (ha : PE X a (RE M B φ sa)) : PE X (.BoolOp op [a] pos) (RE M B φ sa) := pe_one ha
theorem rb_one {op} (ha : PE X a (RB M B φ sa)) : PE X (.BoolOp op [a] pos) (RB M B φ sa) := pe_one ha
theorem re_and (ha : PE X a (RB M B φ sa)) (hb : PE X (.BoolOp .And (b :: rest) pos) (RE M B φ sb)) : PE X (.BoolOp .And (a :: b :: rest) pos) (RE M B φ (.and_ sa sb)) := PE.imp (pe_and ha hb) fun σ H Q ⟨T, env, S, d, S1, r, e, k⟩ => by
  simp only [evE] at e
  obtain ⟨q, Sx, ex, e⟩ := bndB_eq e
  refine ⟨T, env, S, _, _, r, ex, fun v T' H' ev rl p => ⟨q, p.bl, ?_⟩⟩
  cases q with
  | true => rw [if_pos rfl] at e ⊢; exact ⟨T', env, Sx, d, S1, rl, e, fun w T2 H2 ev2 r2 p2 => k w T2 H2 (ev.then ev2) r2 p2⟩
  | false => rw [if_neg Bool.false_ne_true] at e ⊢; cases e; exact k _ T' H' ev rl (.bl _)
theorem re_or (ha : PE X a (RB M B φ sa)) (hb : PE X (.BoolOp .Or (b :: rest) pos) (RE M B φ sb)) : PE X (.BoolOp .Or (a :: b :: rest) pos) (RE M B φ (.or_ sa sb)) := PE.imp (pe_or ha hb) fun σ H Q ⟨T, env, S, d, S1, r, e, k⟩ => by
  simp only [evE] at e
  obtain ⟨q, Sx, ex, e⟩ := bndB_eq e
  refine ⟨T, env, S, _, _, r, ex, fun v T' H' ev rl p => ⟨q, p.bl, ?_⟩⟩
  cases q with
  | false => rw [if_neg Bool.false_ne_true] at e ⊢; exact ⟨T', env, Sx, d, S1, rl, e, fun w T2 H2 ev2 r2 p2 => k w T2 H2 (ev.then ev2) r2 p2⟩
  | true => rw [if_pos rfl] at e ⊢; cases e; exact k _ T' H' ev rl (.bl _)
theorem re_ite {tc : TT} (hc : PT X c (RT M B φ sc)) (ha : PE X a (RE M B φ sa)) (hb : PE X b (RE M B φ sb)) : PE X (.IfExp c a b pos) (RE M B φ (.ite sc sa sb)) := PE.imp (pe_ifExp hc ha hb) fun σ H Q ⟨T, env, S, d, S1, r, e, k⟩ => by
  simp only [evE] at e
  obtain ⟨q, Sx, ex, e⟩ := bndB_eq e
  refine ⟨T, env, S, _, _, r, ex, fun T' H' ev rl => ?_⟩
  cases q with
  | true => rw [if_pos rfl] at e ⊢; exact ⟨T', env, Sx, d, S1, rl, e, fun w T2 H2 ev2 r2 p2 => k w T2 H2 (ev.then ev2) r2 p2⟩
  | false => rw [if_neg Bool.false_ne_true] at e ⊢; exact ⟨T', env, Sx, d, S1, rl, e, fun w T2 H2 ev2 r2 p2 => k w T2 H2 (ev.then ev2) r2 p2⟩
theorem pt_of (ha : PE X a (RB M B φ sa)) (he : ∀ whole, isTrue a X.env whole = (do let v ← whole; standAt a.pos; holding [v] (truthy v))) : PT X a (RT M B φ sa) :=
  PT.imp (pt_val ha he) fun σ H Q ⟨T, env, S, b, S1, r, e, k⟩ => ⟨T, env, S, _, _, r, e, fun v T' H' ev rl p => ⟨b, p.bl, k T' H' ev rl⟩⟩
theorem pt_notR (ha : PT X a (RT M B φ sa)) : PT X (.UnaryOp .Not a pos) (RT M B φ (.not_ sa)) := PT.imp (pt_not ha) fun σ H Q ⟨T, env, S, b, S1, r, e, k⟩ => by
  simp only [evE] at e
  obtain ⟨q, Sx, ex, e⟩ := bndB_eq e
  cases e
  exact ⟨T, env, S, _, _, r, ex, fun T' H' ev rl => k T' H' ev rl⟩
theorem PW.imp {e : Expr} {t t' : TT} (h : PW X e t) (i : ∀ σ H Q, t' σ H Q → t σ H Q) : PW X e t' := ⟨fun w p s σ H Q I q => h.run w p s σ H Q I (i σ H Q q)⟩
theorem pw_andR (ha : PT X a (RT M B φ sa)) (hb : PW X (.BoolOp .And (b :: rest) pos) (RT M B φ sb)) : PW X (.BoolOp .And (a :: b :: rest) pos) (RT M B φ (.and_ sa sb)) := PW.imp (pw_and ha hb) fun σ H Q ⟨T, env, S, d, S1, r, e, k⟩ => by
  simp only [evE] at e
  obtain ⟨q, Sx, ex, e⟩ := bndB_eq e
  refine ⟨T, env, S, _, _, r, ex, fun T' H' ev rl => ?_⟩
  cases q with
  | true => rw [if_pos rfl] at e ⊢; exact ⟨T', env, Sx, d, S1, rl, e, fun T2 H2 ev2 r2 => k T2 H2 (ev.then ev2) r2⟩
  | false => rw [if_neg Bool.false_ne_true] at e ⊢; cases e; exact k T' H' ev rl
theorem pw_orR (ha : PT X a (RT M B φ sa)) (hb : PW X (.BoolOp .Or (b :: rest) pos) (RT M B φ sb)) : PW X (.BoolOp .Or (a :: b :: rest) pos) (RT M B φ (.or_ sa sb)) := PW.imp (pw_or ha hb) fun σ H Q ⟨T, env, S, d, S1, r, e, k⟩ => by
  simp only [evE] at e
  obtain ⟨q, Sx, ex, e⟩ := bndB_eq e
  refine ⟨T, env, S, _, _, r, ex, fun T' H' ev rl => ?_⟩
  cases q with
  | false => rw [if_neg Bool.false_ne_true] at e ⊢; exact ⟨T', env, Sx, d, S1, rl, e, fun T2 H2 ev2 r2 => k T2 H2 (ev.then ev2) r2⟩
  | true => rw [if_pos rfl] at e ⊢; cases e; exact k T' H' ev rl

/-- a comparison's values give a bool -/
def CmpR (X : Cx) (M : Nm) (f : Value → Value → Sem Value) (g : D → D → Option Bool) : Prop :=
  ∃ r : R2, OpR X f r ∧ ∀ (T : Tg) (H : Hp) (x y : D) (k : Bool) (u v : V) (Q : VK), RepB M T H u x → RepB M T H v y → g x y = some k → Q (.bl k) H → r u v H Q
theorem cr_or {f : Value → Value → Sem Value} {g g1 g2 : D → D → Option Bool} (h1 : CmpR X M f g1) (h2 : CmpR X M f g2) (h : ∀ x y k, g x y = some k → g1 x y = some k ∨ g2 x y = some k) : CmpR X M f g := by
  obtain ⟨r1, o1, k1⟩ := h1
  obtain ⟨r2, o2, k2⟩ := h2
  refine ⟨_, o1.or o2, fun T H x y k u v Q hu hv e q => ?_⟩
  rcases h x y k e with e | e
  · exact .inl (k1 T H x y k u v Q hu hv e q)
  · exact .inr (k2 T H x y k u v Q hu hv e q)
theorem cr_int {f : Value → Value → Sem Value} {p : Int → Int → Bool} (h : OpR X f (rI0 fun i j => .bl (p i j))) : CmpR X M f (gInt p) :=
  ⟨_, h, fun T H x y k u v Q hu hv e q => by
    unfold gInt at e
    split at e
    · cases e; exact ⟨_, _, hu.int, hv.int, q⟩
    · cases e⟩
theorem cr_lts : CmpR X M (compareOp .Lt) (gStr strLt) := ⟨_, op_lt_str, fun T H x y k u v Q hu hv e q => by
    unfold gStr at e
    split at e
    · cases e; exact ⟨_, _, hu.str, hv.str, q⟩
    · cases e⟩
mutual
theorem Rep.dp : ∀ {v : V} {d : D}, Rep M T H v d → PyData.canLay0 (toP d) = true → Dp M.K H v (toP d)
  | _, _, .non, _ => by simp only [toP]; exact .non
  | _, _, .bl b, _ => by simp only [toP]; exact .bl b
  | _, _, .int i, _ => by simp only [toP]; exact .int i
  | _, _, .str x, _ => by simp only [toP]; exact .str x
  | _, _, .tup h r, q => by simp only [toP, PyData.canLay0] at q ⊢; exact .tup h (RepAll.dp r q)
  | _, _, .lst h _ r, q => by simp only [toP, PyData.canLay0] at q ⊢; exact .lst (.inl (.inl h)) (RepAll.dp r q)
  | _, _, .dct _ _ _ _, q => by simp [toP, PyData.canLay0] at q
  | _, _, .dctT _ _ _ _, q => by simp [toP, PyData.canLay0] at q
  | _, _, .obj _ _ _ _ _, q => by simp [toP, PyData.canLay0] at q
  | _, _, .exc _ _ _ _ _ _ _, q => by simp [toP, PyData.canLay0] at q
  | _, _, .ref _, q => by simp [toP, PyData.canLay0] at q
  | _, _, .scr _ _, q => by simp [toP, PyData.canLay0] at q
theorem RepAll.dp : ∀ {vs : List V} {ds : List D}, RepAll M T H vs ds → PyData.canLayAll0 (toPs ds) = true → DpAll M.K H vs (toPs ds)
  | _, _, .nil, _ => by simp only [toPs]; exact .nil
  | _, _, .cons r t, q => by
    simp only [toPs, PyData.canLayAll0, Bool.and_eq_true] at q ⊢
    exact .cons (Rep.dp r q.1) (RepAll.dp t q.2)
end
theorem RepB.dp (h : RepB M T H v x) (q : shp x = true) : Dp M.K H v (toP x) := by
  have q1 := SeqAt.canLay_of_shaped q
  rcases h with h | ⟨a, j, rfl, _, h⟩
  · exact h.dp q1
  · cases h with
    | lst h r => simp only [toP, PyData.canLay0] at q1 ⊢; exact .lst (.inl (.inl h)) (r.dp q1)
    | dct _ _ _ => simp [toP, PyData.canLay0] at q1
    | dctT _ _ _ => simp [toP, PyData.canLay0] at q1
    | obj _ _ _ _ => simp [toP, PyData.canLay0] at q1
theorem cr_eq (hK : M.K = X.K) (hu : X.A.units + 64 < cLine) : CmpR X M (compareOp .Eq) eqD := ⟨_, op_eqD hu, fun T H x y k u v Q pu pv e q => by
  unfold eqD at e
  split at e
  · rename_i hs
    obtain ⟨h1, h2⟩ := Bool.and_eq_true_iff.mp hs
    cases e
    rw [← hK]
    exact ⟨_, _, pu.dp h1, pv.dp h2, h1, h2, q⟩
  · cases e⟩
theorem cr_ne (hK : M.K = X.K) (hu : X.A.units + 64 < cLine) : CmpR X M (compareOp .NotEq) (nt eqD) := ⟨_, op_neD hu, fun T H x y k u v Q pu pv e q => by
  unfold nt at e
  cases w : eqD x y with
  | none => rw [w] at e; cases e
  | some k' =>
    rw [w] at e
    cases e
    unfold eqD at w
    split at w
    · rename_i hs
      obtain ⟨h1, h2⟩ := Bool.and_eq_true_iff.mp hs
      cases w
      rw [← hK]
      exact ⟨_, _, pu.dp h1, pv.dp h2, h1, h2, q⟩
    · cases w⟩
theorem any_toP (d : D) : ∀ ds : List D, ((toPs ds).any fun z => PyData.eqv z (toP d)) = ds.any fun z => PyData.eqv (toP z) (toP d)
  | [] => by simp [toPs]
  | x :: xs => by simp only [toPs, List.any_cons, any_toP d xs]
theorem cr_in (hK : M.K = X.K) (hu : X.A.units + 65 < cLine) : CmpR X M (compareOp .In) gIn := ⟨_, op_inD hu, fun T H x y k u v Q pu pv e q => by
  unfold gIn at e
  split at e
  · rename_i ds
    unfold inD at e
    split at e
    · rename_i hs
      obtain ⟨h1, h2⟩ := Bool.and_eq_true_iff.mp hs
      cases e
      rw [← hK]
      have p2 := pv.dp h2
      unfold shp at h2
      simp only [toP] at p2 h2
      exact ⟨_, _, pu.dp h1, p2, h1, h2, by rw [any_toP]; exact q⟩
    · cases e
  · cases e⟩
theorem cr_nin (hK : M.K = X.K) (hu : X.A.units + 65 < cLine) : CmpR X M (compareOp .NotIn) (nt gIn) := ⟨_, op_notInD hu, fun T H x y k u v Q pu pv e q => by
  unfold nt at e
  cases w : gIn x y with
  | none => rw [w] at e; cases e
  | some k' =>
    rw [w] at e
    cases e
    unfold gIn at w
    split at w
    · rename_i ds
      unfold inD at w
      split at w
      · rename_i hs
        obtain ⟨h1, h2⟩ := Bool.and_eq_true_iff.mp hs
        cases w
        rw [← hK]
        have p2 := pv.dp h2
        unfold shp at h2
        simp only [toP] at p2 h2
        exact ⟨_, _, pu.dp h1, p2, h1, h2, by rw [any_toP]; exact q⟩
      · cases w
    · cases w⟩
theorem gSign_eq {k : Bool} (e : gSign x y = some k) : ∃ c z, x = .str ⟨#[c]⟩ ∧ y = .str z ∧ k = decide (c ∈ z.cps.toList) := by
  unfold gSign at e
  split at e
  · rename_i s z
    split at e
    · rename_i c w
      cases e
      refine ⟨c, z, ?_, rfl, rfl⟩
      obtain ⟨l⟩ := s
      have : l = #[c] := Array.toList_inj.mp w
      rw [this]
    · cases e
  · cases e
theorem cr_sign : CmpR X M (compareOp .In) gSign := ⟨_, op_in_sign, fun T H x y k u v Q pu pv e q => by
  obtain ⟨c, z, rfl, rfl, rfl⟩ := gSign_eq e
  exact ⟨_, _, pu.str, pv.str, q⟩⟩
theorem cr_nsign : CmpR X M (compareOp .NotIn) (nt gSign) := ⟨_, op_notIn_sign, fun T H x y k u v Q pu pv e q => by
  unfold nt at e
  cases w : gSign x y with
  | none => rw [w] at e; cases e
  | some k' =>
    rw [w] at e
    cases e
    obtain ⟨c, z, rfl, rfl, rfl⟩ := gSign_eq w
    exact ⟨_, _, pu.str, pv.str, q⟩⟩
theorem RepB.isN (h : RepB M T H v x) : decide (v = .non) = isNon x := by
  rcases h with h | ⟨a, j, rfl, _, h⟩
  · cases h <;> simp [isNon]
  · cases h <;> simp [isNon]
theorem cr_isN : CmpR X M (compareOp .Is) gIsN := ⟨_, op_isN, fun T H x y k u v Q pu pv e q => by
  unfold gIsN at e
  split at e
  · cases e; exact ⟨pv.non, by rw [pu.isN]; exact q⟩
  · cases e⟩
theorem cr_notN : CmpR X M (compareOp .IsNot) (nt gIsN) := ⟨_, op_notN, fun T H x y k u v Q pu pv e q => by
  unfold nt at e
  cases w : gIsN x y with
  | none => rw [w] at e; cases e
  | some k' =>
    rw [w] at e
    cases e
    unfold gIsN at w
    split at w
    · cases w; exact ⟨pv.non, by rw [pu.isN]; exact q⟩
    · cases w⟩
theorem alt_eq {α : Type} {p q : Option α} {k : α} (h : alt p q = some k) : p = some k ∨ q = some k := by
  cases p with
  | some z => exact .inl h
  | none => exact .inr h
theorem cr_lt : CmpR X M (compareOp .Lt) evLt := cr_or (cr_int op_lt) cr_lts fun x y k e => alt_eq e
theorem cr_seq (hK : M.K = X.K) (hu : X.A.units + 65 < cLine) : CmpR X M (compareOp .In) (fun x y => alt (gSign x y) (gIn x y)) := cr_or cr_sign (cr_in hK hu) fun x y k e => alt_eq e
theorem cr_nseq (hK : M.K = X.K) (hu : X.A.units + 65 < cLine) : CmpR X M (compareOp .NotIn) (nt fun x y => alt (gSign x y) (gIn x y)) := cr_or cr_nsign (cr_nin hK hu) fun x y k e => by
  unfold nt at e ⊢
  dsimp only at e
  cases w : alt (gSign x y) (gIn x y) with
  | none => rw [w] at e; cases e
  | some k' =>
    rw [w] at e
    rcases alt_eq w with w | w
    · exact .inl (by rw [w]; exact e)
    · exact .inr (by rw [w]; exact e)
/-- no object of one's own -/
def plainC (o : COp) (x y : D) : Bool := match x, y, o with
  | .obj _ _, _, .eq => false
  | .obj _ _, _, .ne => false
  | .obj _ _, _, .le => false
  | _, .obj _ _, .in_ => false
  | _, _, _ => true
/-- an object's own comparison -/
def ObjC (X : Cx) (M : Nm) (B : Tb) (φ : Phi) (f : Value → Value → Sem Value) (o : COp) : Prop :=
  ∃ r : R2, OpR X f r ∧ ∀ (T : Tg) (σ : L2.St) (H : Hp) (env : List Slot) (S S1 : Store) (c : Nat) (fs : List (Nat × D)) (y d : D) (u v : V) (Q : VK), Rel M T σ H env S → RepB M T H u (.obj c fs) → RepB M T H v y → plainC o (.obj c fs) y = false → cmpD B φ o (.obj c fs) y S = some (d, S1) →
    (∀ w T' H', Ev T H T' H' → Rel M T' σ H' env S1 → Rep M T' H' w d → Q w H') → r u v H Q
theorem cmpD_plain {o : COp} (h : plainC o x y = true) : cmpD B φ o x y S = lift ((evCmp o x y).map D.bl) S := by
  unfold cmpD
  split <;> first | (simp [plainC] at h; done) | skip
  split <;> first | (simp [plainC] at h; done) | rfl
theorem map_bl {q : Option Bool} {d : D} (h : q.map D.bl = some d) : ∃ k, q = some k ∧ d = .bl k := by
  cases q with
  | none => cases h
  | some k => cases h; exact ⟨k, rfl, rfl⟩
end
end RI
end

section
namespace RI
open PySem PySem.Spec L2
section
variable {X : Cx} {M : Nm} {B : Tb} {φ : Phi} {a b c : Expr} {sa sb sc : SE} {pos : Pos} {rest : List Expr} {T T1 T2 T3 : Tg} {σ : L2.St} {H H1 H2 : Hp} {env : List Slot} {S S1 S2 S3 : Store} {x y z : D} {u v : V} {es : List Expr} {ss : List SE}
theorem PE.or {e : Expr} {t t' : TE} (h : PE X e t) (h' : PE X e t') : PE X e (fun σ H Q => t σ H Q ∨ t' σ H Q) := ⟨fun p s σ H Q I q => q.elim (h.run p s σ H Q I) (h'.run p s σ H Q I)⟩
theorem pe_of_pc {op : CmpOp} {t : TE} (h : PC X op a b t) (h1 : behindInMarks op b = false) : PE X (.Compare a [op] [b] pos) t := pe_cmp h h1
/-- a comparison that a dict does not answer -/
theorem re_cmp {op : CmpOp} {o : COp} (h : CmpR X M (compareOp op) (evCmp o)) (ho : ObjC X M B φ (compareOp op) o) (hp : ∀ x y : D, plainC o x y = true ∨ ∃ c fs, x = .obj c fs) (hm : behindInMarks op b = false) (ha : PE X a (RB M B φ sa)) (hb : PE X b (RB M B φ sb)) :
    PE X (.Compare a [op] [b] pos) (RE M B φ (.cmp o sa sb)) := by
  obtain ⟨r1, h1, k1⟩ := h
  obtain ⟨r2, h2, k2⟩ := ho
  refine PE.imp (pe_cmpR (h1.or h2) ha hb hm) fun σ H Q ⟨T, env, S, d, S1, r, e, k⟩ => ?_
  simp only [evE] at e
  obtain ⟨x, Sx, ex, e⟩ := bnd_eq e
  obtain ⟨y, Sy, ey, e⟩ := bnd_eq e
  refine go2 r ex ey fun u v T2 H2 ev rl pu pv => ?_
  by_cases q : plainC o x y = true
  · rw [cmpD_plain q] at e
    obtain ⟨e1, rfl⟩ := lift_eq e
    obtain ⟨b', e2, rfl⟩ := map_bl e1
    exact .inl (k1 T2 H2 x y b' u v Q pu pv e2 (k _ T2 H2 ev rl (.bl b')))
  · rcases hp x y with w | ⟨c, fs, rfl⟩
    · exact absurd w q
    · exact .inr (k2 T2 σ H2 env Sy S1 c fs y d u v Q rl pu pv (by simpa using q) e fun w T' H' ev' rl' rp => k w T' H' (ev.then ev') rl' rp)
theorem ObjC.none {op : CmpOp} {o : COp} (h : ∀ c o, B.cop c o = none) : ObjC X M B φ (compareOp op) o :=
  ⟨fun _ _ _ _ => False, fun _ _ _ _ _ _ _ _ _ _ _ _ q => q.elim, fun T σ H env S S1 c fs y d u v Q _ _ _ hp e _ => by
    cases o <;> cases y <;> simp [plainC] at hp <;> simp [cmpD, h] at e⟩
theorem plain_or {o : COp} (h : o ≠ .in_) : ∀ x y : D, plainC o x y = true ∨ ∃ c fs, x = .obj c fs := fun x y => by
  cases x <;> first | exact .inr ⟨_, _, rfl⟩ | (cases o <;> cases y <;> first | exact .inl rfl | exact absurd rfl h)
theorem RepAll.valV {κ : Type} [DecidableEq κ] : ∀ {kvs : List (κ × V)} {ds : List (κ × D)} (k : κ), kvs.map Prod.fst = ds.map Prod.fst → RepAll M T H (kvs.map Prod.snd) (ds.map Prod.snd) →
    (L2.valV kvs k = Option.none ∧ getK ds k = Option.none) ∨ ∃ v d, L2.valV kvs k = some v ∧ getK ds k = some d ∧ Rep M T H v d
  | [], [], k, _, _ => .inl ⟨rfl, rfl⟩
  | [], _ :: _, k, e, _ => by simp at e
  | _ :: _, [], k, e, _ => by simp at e
  | p :: kvs, q :: ds, k, e, r => by
    simp only [List.map_cons, List.cons.injEq] at e r
    cases r with
    | cons r1 r2 =>
      by_cases h : p.1 = k
      · refine .inr ⟨p.2, q.2, valV_pos h, ?_, r1⟩
        unfold getK
        rw [List.find?_cons, show decide (q.1 = k) = true from decide_eq_true (e.1 ▸ h)]
        rfl
      · have h' : ¬ q.1 = k := e.1 ▸ h
        rw [valV_neg h]
        have : getK (q :: ds) k = getK ds k := by
          unfold getK
          rw [List.find?_cons, show decide (q.1 = k) = false from decide_eq_false h']
        rw [this]
        exact RepAll.valV k e.2 r2
theorem RepB.key {k : Key} (h : RepB M T H v y) (e : keyD y = some k) : v = kV k := by
  cases y with
  | int i => cases e; exact h.int
  | str i => cases e; exact h.str
  | _ => cases e
theorem dct_get {ds : List (Key × D)} {k : Key} (h : RepB M T H v (.dct ds)) (hk : RepB M T H u y) (e : keyD y = some k) : ∃ a o, v = .ref a ∧ DGet H a u o ∧
    ((o = none ∧ getK ds k = none) ∨ ∃ w d, o = some w ∧ getK ds k = some d ∧ Rep M T H w d) := by
  obtain ⟨a, kvs, rfl, hr, hf, hs⟩ := h.dct
  refine ⟨a, L2.valV kvs k, rfl, .inl ⟨kvs, k, hr, hk.key e, rfl⟩, ?_⟩
  rcases RepAll.valV k hf hs with ⟨h1, h2⟩ | ⟨w, d, h1, h2, h3⟩
  · exact .inl ⟨h1, h2⟩
  · exact .inr ⟨w, d, h1, h2, h3⟩
theorem getD_dct {ds : List (Key × D)} {o : Option D} (e : getD? (.dct ds) y = some o) : ∃ k, keyD y = some k ∧ o = getK ds k := by
  unfold getD? at e
  cases q : keyD y with
  | none => simp only [q] at e; cases e
  | some k => simp only [q] at e; cases e; exact ⟨k, rfl, rfl⟩
theorem gDin_eq {ds : List (Key × D)} {q : Bool} (e : gDin x (.dct ds) = some q) : ∃ k, keyD x = some k ∧ q = (getK ds k).isSome := by
  unfold gDin at e
  cases w : getD? (.dct ds) x with
  | none => rw [w] at e; cases e
  | some o =>
    rw [w] at e
    obtain ⟨k, h1, rfl⟩ := getD_dct w
    exact ⟨k, h1, (Option.some.inj e).symm⟩
/-- an object's own in -/
def ObjI (X : Cx) (M : Nm) (B : Tb) (φ : Phi) (f : Value → Value → Sem Value) (o : COp) : Prop :=
  ∃ r : R2, OpR X f r ∧ ∀ (T : Tg) (σ : L2.St) (H : Hp) (env : List Slot) (S S1 : Store) (c : Nat) (fs : List (Nat × D)) (x d : D) (u v : V) (Q : VK), Rel M T σ H env S → RepB M T H u x → RepB M T H v (.obj c fs) → cmpD B φ o x (.obj c fs) S = some (d, S1) →
    (∀ w T' H', Ev T H T' H' → Rel M T' σ H' env S1 → Rep M T' H' w d → Q w H') → r u v H Q
theorem ObjI.none {op : CmpOp} {o : COp} (h : ∀ c fs x S, cmpD B φ o x (.obj c fs) S = none) : ObjI X M B φ (compareOp op) o :=
  ⟨fun _ _ _ _ => False, fun _ _ _ _ _ _ _ _ _ _ _ _ q => q.elim, fun T σ H env S S1 c fs x d u v Q _ _ _ e _ => by rw [h] at e; cases e⟩
theorem in_plain (h : ∀ c fs, y ≠ .obj c fs) : cmpD B φ .in_ x y S = lift ((evIn x y).map D.bl) S := by
  unfold cmpD
  split
  · rename_i h1; cases h1
  · rename_i h1; cases h1
  · rename_i h1; cases h1
  · split
    · rename_i h1; exact absurd rfl (h _ _)
    · rfl
theorem nin_plain : cmpD B φ .nin x y S = lift ((nt evIn x y).map D.bl) S := by
  unfold cmpD
  split
  · rename_i h1; cases h1
  · rename_i h1; cases h1
  · rename_i h1; cases h1
  · split
    · rename_i h1; cases h1
    · rfl
theorem re_in (hK : M.K = X.K) (hu : X.A.units + 65 < cLine) (ho : ObjI X M B φ (compareOp .In) .in_) (hm : behindInMarks .In b = false) (ha : PE X a (RB M B φ sa)) (hb : PE X b (RB M B φ sb)) :
    PE X (.Compare a [.In] [b] pos) (RE M B φ (.cmp .in_ sa sb)) := by
  obtain ⟨r1, h1, k1⟩ := cr_seq (X := X) (M := M) hK hu
  obtain ⟨r2, h2, k2⟩ := ho
  refine PE.imp (PE.or (pe_cmpR (h1.or h2) ha hb hm) (pe_cmp (pc_din (by omega) ha hb) hm)) fun σ H Q ⟨T, env, S, d, S1, r, e, k⟩ => ?_
  simp only [evE] at e
  obtain ⟨x, Sx, ex, e⟩ := bnd_eq e
  obtain ⟨y, Sy, ey, e⟩ := bnd_eq e
  cases y with
  | obj c fs => exact .inl (go2 r ex ey fun u v T2 H2 ev rl pu pv => .inr (k2 T2 σ H2 env Sy S1 c fs x d u v Q rl pu pv e fun w T' H' ev' rl' rp => k w T' H' (ev.then ev') rl' rp))
  | dct ds =>
    rw [in_plain (by intro c fs z; cases z)] at e
    obtain ⟨e1, rfl⟩ := lift_eq e
    obtain ⟨q, e2, rfl⟩ := map_bl e1
    obtain ⟨key, hk, rfl⟩ := gDin_eq e2
    refine .inr (go2 r ex ey fun u v T2 H2 ev rl pu pv => ?_)
    obtain ⟨a', o, rfl, dg, h⟩ := dct_get pv pu hk
    refine ⟨a', o, rfl, dg, ?_⟩
    rcases h with ⟨rfl, h⟩ | ⟨w, d', rfl, h, _⟩
    · have := k (.bl false) T2 H2 ev rl (by rw [h]; exact .bl false)
      exact this
    · have := k (.bl true) T2 H2 ev rl (by rw [h]; exact .bl true)
      exact this
  | _ =>
    refine .inl (go2 r ex ey fun u v T2 H2 ev rl pu pv => .inl ?_)
    rw [in_plain (by intro c fs z; cases z)] at e
    obtain ⟨e1, rfl⟩ := lift_eq e
    obtain ⟨q, e2, rfl⟩ := map_bl e1
    exact k1 T2 H2 _ _ q u v Q pu pv e2 (k _ T2 H2 ev rl (.bl q))
theorem nt_eq {f : D → D → Option Bool} {q : Bool} (e : nt f x y = some q) : f x y = some (!q) := by
  unfold nt at e
  cases w : f x y with
  | none => rw [w] at e; cases e
  | some k => rw [w] at e; cases e; simp
theorem re_nin (hK : M.K = X.K) (hu : X.A.units + 65 < cLine) (hm : behindInMarks .NotIn b = false) (ha : PE X a (RB M B φ sa)) (hb : PE X b (RB M B φ sb)) :
    PE X (.Compare a [.NotIn] [b] pos) (RE M B φ (.cmp .nin sa sb)) := by
  obtain ⟨r1, h1, k1⟩ := cr_nseq (X := X) (M := M) hK hu
  refine PE.imp (PE.or (pe_cmpR h1 ha hb hm) (pe_cmp (pc_dnotin (by omega) ha hb) hm)) fun σ H Q ⟨T, env, S, d, S1, r, e, k⟩ => ?_
  simp only [evE] at e
  obtain ⟨x, Sx, ex, e⟩ := bnd_eq e
  obtain ⟨y, Sy, ey, e⟩ := bnd_eq e
  rw [nin_plain] at e
  obtain ⟨e1, rfl⟩ := lift_eq e
  obtain ⟨q, e2, rfl⟩ := map_bl e1
  cases y with
  | dct ds =>
    obtain ⟨key, hk, hq⟩ := gDin_eq (nt_eq e2)
    refine .inr (go2 r ex ey fun u v T2 H2 ev rl pu pv => ?_)
    obtain ⟨a', o, rfl, dg, h⟩ := dct_get pv pu hk
    refine ⟨a', o, rfl, dg, ?_⟩
    have hq' : q = !(getK ds key).isSome := by rw [← hq, Bool.not_not]
    rcases h with ⟨rfl, h⟩ | ⟨w, d', rfl, h, _⟩
    · have := k (.bl true) T2 H2 ev rl (by rw [hq', h]; exact .bl true)
      exact this
    · have := k (.bl false) T2 H2 ev rl (by rw [hq', h]; exact .bl false)
      exact this
  | _ => exact .inl (go2 r ex ey fun u v T2 H2 ev rl pu pv => k1 T2 H2 _ _ q u v Q pu pv e2 (k _ T2 H2 ev rl (.bl q)))
theorem re_chain {op op' : CmpOp} {o o' : COp} (h : CmpR X M (compareOp op) (evCmp o)) (h' : CmpR X M (compareOp op') (evCmp o')) (ha : PE X a (RB M B φ sa)) (hb : PE X b (RB M B φ sb)) (hc : PE X c (RB M B φ sc))
    (hm : lastMarks [op, op'] [b, c] = false) : PE X (.Compare a [op, op'] [b, c] pos) (RE M B φ (.chain o o' sa sb sc)) := by
  obtain ⟨r1, h1, k1⟩ := h
  obtain ⟨r2, h2, k2⟩ := h'
  refine PE.imp (pe_chain h1 h2 ha hb hc hm) fun σ H Q ⟨T, env, S, d, S1, r, e, k⟩ => ?_
  simp only [evE] at e
  obtain ⟨x, Sx, ex, e⟩ := bnd_eq e
  obtain ⟨y, Sy, ey, e⟩ := bnd_eq e
  obtain ⟨q, Sz, ez, e⟩ := bndB_eq e
  obtain ⟨e1, rfl⟩ := lift_eq ez
  obtain ⟨q', e2, e3⟩ := map_bl e1
  cases e3
  refine go2 r ex ey fun u v T2 H2 ev rl pu pv => k1 T2 H2 x y q u v _ pu pv e2 ⟨q, rfl, ?_⟩
  cases q with
  | true =>
    rw [if_pos rfl] at e ⊢
    obtain ⟨z, Sw, ez, e⟩ := bnd_eq e
    obtain ⟨e4, rfl⟩ := lift_eq e
    obtain ⟨q2, e5, rfl⟩ := map_bl e4
    exact ⟨T2, env, Sz, z, _, rl, ez, fun w T3 H3 ev3 r3 p3 => k2 T3 H3 y z q2 v w Q (pv.ev ev3) p3 e5 (k _ T3 H3 (ev.then ev3) r3 (.bl q2))⟩
  | false =>
    rw [if_neg Bool.false_ne_true] at e ⊢
    cases e
    exact k _ T2 H2 ev rl (.bl false)
end
end RI
end

section
namespace RI
open PySem PySem.Spec L2
section
variable {X : Cx} {M : Nm} {B : Tb} {φ : Phi} {a b c e1 e2 : Expr} {sa sb sc : SE} {pos : Pos} {rest : List Expr} {T T1 T2 T3 : Tg} {σ : L2.St} {H H1 H2 : Hp} {env : List Slot} {S S1 S2 S3 : Store} {x y z : D} {u v : V} {es : List Expr} {ss : List SE}
theorem RepB.ref {n : Nat} (h : RepB M T H v (.ref n)) : ∃ a, v = .ref a ∧ T a = some (.cell n) := by
  rcases h with h | ⟨a, j, rfl, _, h⟩
  · cases h with
    | ref h => exact ⟨_, rfl, h⟩
  · cases h
/-- the list in the cell n -/
theorem cell_lst {n : Nat} {ds : List D} (r : Rel M T σ H env S) (h : RepB M T H v (.ref n)) (e : S[n]? = some (.lst ds)) : ∃ a xs, v = .ref a ∧ T a = some (.cell n) ∧ H a = some (.lst xs) ∧ RepAll M T H xs ds := by
  obtain ⟨a, rfl, t⟩ := h.ref
  obtain ⟨b, tb, ok⟩ := r.st.cell n _ e
  obtain rfl := r.st.uniq a b n t tb
  cases ok with
  | lst h q => exact ⟨a, _, rfl, t, h, q⟩
theorem atI_rep {xs : List V} {ds : List D} {i : Int} {d : D} (r : RepAll M T H xs ds) (e : atI ds i = some d) : ∃ w, atI xs i = some w ∧ Rep M T H w d := by
  unfold atI at e ⊢
  rw [r.length]
  cases q : ixN ds.length i with
  | none => rw [q] at e; cases e
  | some j => rw [q] at e; exact r.get (by simpa using e)
theorem lift_some {o : Option D} {d : D} {S S1 : Store} (h : lift o S = some (d, S1)) : o = some d ∧ S = S1 := by
  obtain ⟨h1, h2⟩ := lift_eq h
  exact ⟨h1, h2.symm⟩
theorem evIdx_eq (e : evIdx x y = some z) : (∃ xs i, x = .lst xs ∧ y = .int i ∧ atI xs i = some z) ∨ (∃ xs i, x = .tup xs ∧ y = .int i ∧ atI xs i = some z) ∨
    (∃ t i ch, x = .str t ∧ y = .int i ∧ t.length ≤ sizeLine ∧ atI t.cps.toList i = some ch ∧ z = .str ⟨#[ch]⟩) ∨ ∃ ds k, x = .dct ds ∧ keyD y = some k ∧ getK ds k = some z := by
  cases x with
  | lst xs => cases y with
    | int i => exact .inl ⟨_, _, rfl, rfl, e⟩
    | _ => cases e
  | tup xs => cases y with
    | int i => exact .inr (.inl ⟨_, _, rfl, rfl, e⟩)
    | _ => cases e
  | str t => cases y with
    | int i =>
      unfold evIdx at e
      dsimp only at e
      split at e
      · rename_i hl
        cases q : atI t.cps.toList i with
        | none => rw [q] at e; cases e
        | some ch => rw [q] at e; cases e; exact .inr (.inr (.inl ⟨t, i, ch, rfl, rfl, hl, q, rfl⟩))
      · cases e
    | _ => cases e
  | dct ds =>
    unfold evIdx at e
    dsimp only at e
    cases q : getD? (.dct ds) y with
    | none => rw [q] at e; cases e
    | some o =>
      rw [q] at e
      obtain ⟨k, hk, rfl⟩ := getD_dct q
      exact .inr (.inr (.inr ⟨ds, k, rfl, hk, e⟩))
  | _ => cases e
theorem idxD_eq (e : idxD x y S = some (z, S1)) : S = S1 ∧ ((∃ n i ds, x = .ref n ∧ y = .int i ∧ S[n]? = some (.lst ds) ∧ atI ds i = some z) ∨ evIdx x y = some z) := by
  unfold idxD at e
  split at e
  · split at e
    · rename_i hc
      obtain ⟨e1, rfl⟩ := lift_some e
      exact ⟨rfl, .inl ⟨_, _, _, rfl, rfl, hc, e1⟩⟩
    · cases e
  · obtain ⟨e1, rfl⟩ := lift_some e
    exact ⟨rfl, .inr e1⟩
theorem re_idx (hK : M.K = X.K) (hu : X.A.units + 1 < cLine) (hs : PlainIx b) (hn : NoSl b) (ha : PE X a (RB M B φ sa)) (hb : PE X b (RB M B φ sb)) : PE X (.Subscript a b pos) (RE M B φ (.idx sa sb)) := by
  refine PE.imp (PE.or (pe_ix ix_seq ha hb hs) (pe_dget hu ha hb hn)) fun σ H Q ⟨T, env, S, d, S1, r, e, k⟩ => ?_
  simp only [evE] at e
  obtain ⟨x, Sx, ex, e⟩ := bnd_eq e
  obtain ⟨y, Sy, ey, e⟩ := bnd_eq e
  have hI := idxD_eq e
  clear e
  obtain ⟨hS, hI⟩ := hI
  subst hS
  rcases hI with ⟨n, i, ds, rfl, rfl, hc, e1⟩ | e
  · refine .inl (go2 r ex ey fun u v T2 H2 ev rl pu pv => ?_)
    obtain ⟨p, xs, rfl, _, hp, rp⟩ := cell_lst rl pu hc
    obtain ⟨w, hw, rw'⟩ := atI_rep rp e1
    exact .inl ⟨p, xs, i, w, rfl, pv.int, .inl (.inl hp), hw, k w T2 H2 ev rl rw'⟩
  · rcases evIdx_eq e with ⟨xs, i, rfl, rfl, e1⟩ | ⟨xs, i, rfl, rfl, e1⟩ | ⟨t, i, ch, rfl, rfl, hl, q, rfl⟩ | ⟨ds, key, rfl, hk, e1⟩
    · refine .inl (go2 r ex ey fun u v T2 H2 ev rl pu pv => ?_)
      obtain ⟨p, us, rfl, hp, rp⟩ := pu.lst
      obtain ⟨w, hw, rw'⟩ := atI_rep rp e1
      exact .inl ⟨p, us, i, w, rfl, pv.int, .inl (.inl hp), hw, k w T2 H2 ev rl rw'⟩
    · refine .inl (go2 r ex ey fun u v T2 H2 ev rl pu pv => ?_)
      obtain ⟨p, us, rfl, hp, rp⟩ := pu.tup
      obtain ⟨w, hw, rw'⟩ := atI_rep rp e1
      exact .inr (.inl ⟨p, us, i, w, rfl, pv.int, by rw [← hK]; exact hp, hw, k w T2 H2 ev rl rw'⟩)
    · exact .inl (go2 r ex ey fun u v T2 H2 ev rl pu pv => .inr (.inr ⟨t, i, ch, pu.str, pv.int, hl, q, k _ T2 H2 ev rl (.str _)⟩))
    · refine .inr (go2 r ex ey fun u v T2 H2 ev rl pu pv => ?_)
      obtain ⟨p, o, rfl, dg, h⟩ := dct_get pu pv hk
      rcases h with ⟨_, h⟩ | ⟨w, d', rfl, h, rw'⟩
      · rw [h] at e1; cases e1
      · rw [h] at e1
        cases e1
        exact ⟨p, w, rfl, dg, k w T2 H2 ev rl rw'⟩
theorem intO_eq {o : Option Int} (h : intO x = some o) : (x = .non ∧ o = none) ∨ ∃ i, x = .int i ∧ o = some i := by
  unfold intO at h
  split at h
  · cases h; exact .inl ⟨rfl, rfl⟩
  · cases h; exact .inr ⟨_, rfl, rfl⟩
  · cases h
/-- an optional part of a slice -/
def RO (M : Nm) (B : Tb) (φ : Phi) (e : SE) : TO := fun σ H Q => ∃ T env S d S1 o, Rel M T σ H env S ∧ evE B φ e env S = some (d, S1) ∧ intO d = some o ∧
  ∀ T' H', Ev T H T' H' → Rel M T' σ H' env S1 → Q o H'
theorem PO.imp {e : Option Expr} {t t' : TO} (h : PO X e t) (i : ∀ σ H Q, t' σ H Q → t σ H Q) : PO X e t' := ⟨fun p s σ H Q I q => h.run p s σ H Q I (i σ H Q q)⟩
theorem po_no : PO X none (RO M B φ .cnon) := PO.imp po_none fun σ H Q ⟨T, env, S, d, S1, o, r, e, h, k⟩ => by
  simp only [evE] at e
  cases e
  cases h
  exact k T H .refl r
theorem po_so (ha : PE X a (RB M B φ sa)) (hn : ∀ env S S1, evE B φ sa env S ≠ some (.non, S1)) : PO X (some a) (RO M B φ sa) := PO.imp (po_some ha) fun σ H Q ⟨T, env, S, d, S1, o, r, e, h, k⟩ => by
  refine ⟨T, env, S, d, S1, r, e, fun v T' H' ev rl p => ?_⟩
  rcases intO_eq h with ⟨rfl, rfl⟩ | ⟨i, rfl, rfl⟩
  · exact absurd e (hn _ _ _)
  · exact ⟨i, p.int, k T' H' ev rl⟩
theorem re_sl (hK : M.K = X.K) {lo hi : Option Expr} {sl sh : SE} {p2 : Pos} (ha : PE X a (RB M B φ sa)) (hl : PO X lo (RO M B φ sl)) (hh : PO X hi (RO M B φ sh)) : PE X (.Subscript a (.Slice lo hi none p2) pos) (RX M B φ (.slc sa sl sh)) := by
  refine PE.imp (pe_slice (sl_list.or C8.sl_txt) ha hl hh) fun σ H Q ⟨T, env, S, d, S1, r, e, k⟩ => ?_
  simp only [evE] at e
  obtain ⟨x, Sx, ex, e⟩ := bnd_eq e
  obtain ⟨l, Sl, el, e⟩ := bnd_eq e
  obtain ⟨h, Sh, eh, e⟩ := bnd_eq e
  cases ql : intO l with
  | none => simp only [ql] at e; cases e
  | some l' =>
    cases qh : intO h with
    | none => simp only [ql, qh] at e; cases e
    | some h' =>
      simp only [ql, qh] at e
      obtain ⟨e1, hS⟩ := lift_some e
      subst hS
      refine ⟨T, env, S, x, Sx, r, ex, fun v T1 H1 ev1 r1 pv => ⟨T1, env, Sx, l, Sl, l', r1, el, ql, fun T2 H2 ev2 r2 => ⟨T2, env, Sl, h, Sh, h', r2, eh, qh, fun T3 H3 ev3 r3 => ?_⟩⟩⟩
      have pv' := (pv.ev ev2).ev ev3
      have ev := (ev1.then ev2).then ev3
      cases x with
      | lst xs =>
        cases e1
        obtain ⟨p, us, rfl, hp, rp⟩ := pv'.lst
        refine .inl ⟨p, us, rfl, .inl (.inl hp), fun q hq => ?_⟩
        obtain ⟨ev4, r4, nd⟩ := new_lst r3 hq (rp.cutA l' h')
        exact k _ _ _ (ev.then ev4) r4 (new_node rfl (ev_free ev hq) tag_same nd)
      | scr xs =>
        cases e1
        obtain ⟨p, us, rfl, hp, rp⟩ := pv'.scr
        refine .inl ⟨p, us, rfl, by rw [← hK]; exact hp, fun q hq => ?_⟩
        obtain ⟨ev4, r4, nd⟩ := new_lst r3 hq (rp.cutA l' h')
        exact k _ _ _ (ev.then ev4) r4 (new_node rfl (ev_free ev hq) tag_same nd)
      | str z =>
        unfold evSlc at e1
        dsimp only at e1
        split at e1
        · rename_i hl
          cases e1
          exact .inr ⟨z, pv'.str, hl, k _ T3 H3 ev r3 (new_of rfl (.str _))⟩
        · cases e1
      | _ => cases e1
theorem re_rev {k0 : Nat} {p1 p2 p3 : Pos} (ha : PE X a (RB M B φ sa)) : PE X (.Subscript a (.Slice none none (some (.UnaryOp .USub (.Constant (.int 1) k0 p1) p2)) p3) pos) (RX M B φ (.rev sa)) := by
  refine PE.imp (pe_revL ha) fun σ H Q ⟨T, env, S, d, S1, r, e, k⟩ => ?_
  simp only [evE] at e
  obtain ⟨x, Sx, ex, e⟩ := bnd_eq e
  cases x with
  | lst xs =>
    cases e
    refine ⟨T, env, S, _, _, r, ex, fun v T1 H1 ev1 r1 pv => ?_⟩
    obtain ⟨p, us, rfl, hp, rp⟩ := pv.lst
    refine ⟨p, us, rfl, .inl (.inl hp), fun q hq => ?_⟩
    obtain ⟨ev4, r4, nd⟩ := new_lst r1 hq rp.rev
    exact k _ _ _ (ev1.then ev4) r4 (new_node rfl (ev_free ev1 hq) tag_same nd)
  | _ => cases e
theorem pa_nilA : PA X [] (RAs M B φ []) := PA.imp pa_nil fun σ H Q ⟨T, env, S, ds, S1, r, e, k⟩ => by
  simp only [evEs] at e
  cases e
  exact k [] T H .refl r .nil
theorem pa_consA (ha : PE X a (RE M B φ sa)) (hr : PA X es (RAs M B φ ss)) (hs : starEach (a :: es) X.env = (false, eval a X.env) :: starEach es X.env) : PA X (a :: es) (RAs M B φ (sa :: ss)) :=
  PA.imp (pa_cons ha hr hs) fun σ H Q ⟨T, env, S, ds, S1, r, e, k⟩ => by
    simp only [evEs] at e
    obtain ⟨x, Sx, ex, e⟩ := bnd_eq e
    obtain ⟨xs, Sy, ey, e⟩ := bnd_eq e
    cases e
    exact ⟨T, env, S, x, Sx, r, ex, fun v T1 H1 ev1 r1 pv => ⟨T1, env, Sx, xs, _, r1, ey, fun vs T2 H2 ev2 r2 ps => k (v :: vs) T2 H2 (ev1.then ev2) r2 (.cons (pv.ev ev2) ps)⟩⟩
theorem RepBs.ev (e : Ev T H T1 H1) : ∀ {vs : List V} {ds : List D}, RepBs M T H vs ds → RepBs M T1 H1 vs ds
  | _, _, .nil => .nil
  | _, _, .cons r t => .cons (r.ev e) (RepBs.ev e t)
theorem pa_nilB : PA X [] (RBs M B φ []) := PA.imp pa_nil fun σ H Q ⟨T, env, S, ds, S1, r, e, k⟩ => by
  simp only [evEs] at e
  cases e
  exact k [] T H .refl r .nil
theorem pa_consB (ha : PE X a (RB M B φ sa)) (hr : PA X es (RBs M B φ ss)) (hs : starEach (a :: es) X.env = (false, eval a X.env) :: starEach es X.env) : PA X (a :: es) (RBs M B φ (sa :: ss)) :=
  PA.imp (pa_cons ha hr hs) fun σ H Q ⟨T, env, S, ds, S1, r, e, k⟩ => by
    simp only [evEs] at e
    obtain ⟨x, Sx, ex, e⟩ := bnd_eq e
    obtain ⟨xs, Sy, ey, e⟩ := bnd_eq e
    cases e
    exact ⟨T, env, S, x, Sx, r, ex, fun v T1 H1 ev1 r1 pv => ⟨T1, env, Sx, xs, _, r1, ey, fun vs T2 H2 ev2 r2 ps => k (v :: vs) T2 H2 (ev1.then ev2) r2 (.cons (pv.ev ev2) ps)⟩⟩
theorem re_tup {x1 : Nat} (h : PA X es (RAs M B φ ss)) : PE X (.Tuple es x1 pos) (RE M B φ (.tup ss)) := PE.imp (pe_tup h) fun σ H Q ⟨T, env, S, d, S1, r, e, k⟩ => by
  simp only [evE] at e
  obtain ⟨ds, Sx, ex, e⟩ := bnd_eq e
  split at e
  · rename_i hl
    cases e
    refine ⟨T, env, S, ds, _, r, ex, fun vs T1 H1 ev1 r1 ps => ⟨by rw [ps.length]; exact hl, fun p hp => ?_⟩⟩
    obtain ⟨ev2, r2, rp⟩ := new_tup r1 hp ps
    exact k _ _ _ (ev1.then ev2) r2 rp
  · cases e
theorem rx_lst (h : PA X es (RAs M B φ ss)) : PE X (.List es pos) (RX M B φ (.lst ss)) := PE.imp (pe_lst h) fun σ H Q ⟨T, env, S, d, S1, r, e, k⟩ => by
  simp only [evE] at e
  obtain ⟨ds, Sx, ex, e⟩ := bnd_eq e
  split at e
  · rename_i hl
    cases e
    refine ⟨T, env, S, ds, _, r, ex, fun vs T1 H1 ev1 r1 ps => ⟨by rw [ps.length]; exact hl, fun p hp => ?_⟩⟩
    obtain ⟨ev2, r2, nd⟩ := new_lst r1 hp ps
    exact k _ _ _ (ev1.then ev2) r2 (new_node rfl (ev_free ev1 hp) tag_same nd)
  · cases e
/-- a list that becomes a cell -/
theorem re_newc (h : PA X es (RAs M B φ ss)) : PE X (.List es pos) (RE M B φ (.newc ss)) := PE.imp (pe_lst h) fun σ H Q ⟨T, env, S, d, S1, r, e, k⟩ => by
  simp only [evE] at e
  obtain ⟨ds, Sx, ex, e⟩ := bnd_eq e
  split at e
  · rename_i hl
    cases e
    refine ⟨T, env, S, ds, _, r, ex, fun vs T1 H1 ev1 r1 ps => ⟨by rw [ps.length]; exact hl, fun p hp => ?_⟩⟩
    obtain ⟨e0, n⟩ := ev_new (o := .lst vs) r1.tg hp
    have ne : ∀ b t', T1 b = some t' → b ≠ p := fun b t' z q => by rw [q, n] at z; cases z
    have ev2 : Ev T1 H1 (tag T1 p (.cell Sx.length)) (upd H1 p (.lst vs)) := ⟨e0.keep, e0.tups, e0.frzs, fun b t' z n' => (by
        by_cases q : b = p
        · rw [q]; exact hp
        · rw [tag_ne q, n'] at z; cases z),
      fun b n' z => (by rw [tag_ne (ne b _ z)]; exact z), fun b z => (by rw [tag_ne (ne b _ z)]; exact z), fun b i z => (by rw [tag_ne (ne b _ z)]; exact z), e0.there⟩
    refine k _ _ _ (ev1.then ev2) ⟨r1.len, fun i => (r1.slot i).ev ev2, fun b t' z => ?_, ⟨fun m c hc => ?_, fun b b' m h h' => ?_, fun b m h => ?_⟩⟩ (.ref tag_same)
    · by_cases q : b = p
      · exact ⟨_, by rw [q]; exact upd_same⟩
      · rw [tag_ne q] at z
        obtain ⟨u, w⟩ := r1.tg b t' z
        exact ⟨u, by rw [upd_ne q]; exact w⟩
    · by_cases q : m < Sx.length
      · rw [List.getElem?_append_left q] at hc
        obtain ⟨y, ty, ok⟩ := r1.st.cell m c hc
        refine ⟨y, by rw [tag_ne (ne y _ ty)]; exact ty, ?_⟩
        cases ok with
        | lst h1 r' => exact .lst (by rw [upd_ne (ne y _ ty)]; exact h1) (r'.ev ev2)
      · rw [List.getElem?_append_right (by omega)] at hc
        have hm : m = Sx.length := by
          have := (List.getElem?_eq_some_iff.mp hc).1
          simp at this
          omega
        subst hm
        simp at hc
        subst hc
        exact ⟨p, tag_same, .lst upd_same (ps.ev ev2)⟩
    · have key : ∀ y, tag T1 p (.cell Sx.length) y = some (.cell m) → (y = p ∧ m = Sx.length) ∨ (T1 y = some (.cell m) ∧ m < Sx.length) := fun y hy => by
        by_cases q : y = p
        · rw [q, tag_same] at hy; cases hy; exact .inl ⟨q, rfl⟩
        · rw [tag_ne q] at hy; exact .inr ⟨hy, r1.st.range y m hy⟩
      rcases key b h with ⟨h1, h2⟩ | ⟨h1, h2⟩ <;> rcases key b' h' with ⟨h3, h4⟩ | ⟨h3, h4⟩
      · rw [h1, h3]
      · omega
      · omega
      · exact r1.st.uniq b b' m h1 h3
    · rw [List.length_append]
      by_cases q : b = p
      · rw [q, tag_same] at h; cases h; simp
      · rw [tag_ne q] at h
        have := r1.st.range b m h
        simp
        omega
  · cases e
end
end RI
end

section
namespace RI
open PySem PySem.Spec L2
section
variable {X : Cx} {M : Nm} {B : Tb} {φ : Phi} {a b c : Expr} {sa sb sc : SE} {pos : Pos} {rest : List Expr} {T T1 T2 T3 : Tg} {σ : L2.St} {H H1 H2 : Hp} {env : List Slot} {S S1 S2 S3 : Store} {x y z d : D} {u v : V} {es : List Expr} {ss : List SE} {ds : List D} {vs : List V}
/-- a built-in's values, by what is reckoned -/
def BiR (X : Cx) (M : Nm) (f : Value) (g : List D → Option D) : Prop :=
  ∃ r : List V → Hp → VK → Prop, CallR X f r ∧ ∀ (T : Tg) (σ : L2.St) (H : Hp) (env : List Slot) (S : Store) (ds : List D) (vs : List V) (d : D) (Q : VK), Rel M T σ H env S → RepBs M T H vs ds → g ds = some d →
    (∀ w T' H', Ev T H T' H' → Rel M T' σ H' env S → New M T' H H' w d → Q w H') → r vs H Q
theorem bi_or {f : Value} {g g1 g2 : List D → Option D} (h1 : BiR X M f g1) (h2 : BiR X M f g2) (h : ∀ ds d, g ds = some d → g1 ds = some d ∨ g2 ds = some d) : BiR X M f g := by
  obtain ⟨r1, o1, k1⟩ := h1
  obtain ⟨r2, o2, k2⟩ := h2
  refine ⟨_, o1.or o2, fun T σ H env S ds vs d Q r p e k => ?_⟩
  rcases h ds d e with e | e
  · exact .inl (k1 T σ H env S ds vs d Q r p e k)
  · exact .inr (k2 T σ H env S ds vs d Q r p e k)
/-- one argument -/
def on1 (g : D → Option D) : List D → Option D
  | [x] => g x
  | _ => none
theorem RepBs.one (h : RepBs M T H vs [x]) : ∃ v, vs = [v] ∧ RepB M T H v x := by
  cases h with
  | cons r t => cases t; exact ⟨_, rfl, r⟩
theorem RepBs.two (h : RepBs M T H vs [x, y]) : ∃ u v, vs = [u, v] ∧ RepB M T H u x ∧ RepB M T H v y := by
  cases h with
  | cons r t => obtain ⟨w, rfl, q⟩ := t.one; exact ⟨_, _, rfl, r, q⟩
theorem on1_eq {g : D → Option D} (h : on1 g ds = some d) : ∃ x, ds = [x] ∧ g x = some d := by
  unfold on1 at h
  split at h
  · exact ⟨_, rfl, h⟩
  · cases h
def lenSq : D → Option D
  | .lst xs => some (.int xs.length)
  | .tup xs => some (.int xs.length)
  | _ => none
def lenSt : D → Option D
  | .str z => if z.length ≤ sizeLine then some (.int z.length) else none
  | _ => none
theorem bi_len (hK : M.K = X.K) : BiR X M (.builtin "len") evLen := by
  refine bi_or (g1 := on1 lenSq) (g2 := on1 lenSt) ⟨_, call_len_seq, fun T σ H env S ds vs d Q r p e k => ?_⟩ ⟨_, call_len_str, fun T σ H env S ds vs d Q r p e k => ?_⟩ fun ds d e => ?_
  · obtain ⟨x, hx, e1⟩ := on1_eq e
    subst hx
    replace e := e1
    obtain ⟨v, hv, p1⟩ := p.one
    subst hv
    replace p := p1
    cases x with
    | lst xs =>
      cases e
      obtain ⟨q, us, rfl, hq, rp⟩ := p.lst
      exact ⟨q, us, rfl, .inl (.inl (.inl hq)), by rw [rp.length]; exact k _ T H .refl r (new_of rfl (.int _))⟩
    | tup xs =>
      cases e
      obtain ⟨q, us, rfl, hq, rp⟩ := p.tup
      exact ⟨q, us, rfl, .inr (by rw [← hK]; exact hq), by rw [rp.length]; exact k _ T H .refl r (new_of rfl (.int _))⟩
    | _ => cases e
  · obtain ⟨x, hx, e1⟩ := on1_eq e
    subst hx
    replace e := e1
    obtain ⟨v, hv, p1⟩ := p.one
    subst hv
    replace p := p1
    cases x with
    | str z =>
      change (if z.length ≤ sizeLine then some (D.int z.length) else none) = some d at e
      split at e
      · rename_i hl
        cases e
        exact ⟨z, by rw [p.str], hl, k _ T H .refl r (new_of rfl (.int _))⟩
      · cases e
    | _ => cases e
  · unfold evLen at e
    split at e
    · exact .inl e
    · exact .inl e
    · exact .inr e
    · cases e
theorem bi_abs : BiR X M (.builtin "abs") evAbs := ⟨_, call_abs, fun T σ H env S ds vs d Q r p e k => by
  unfold evAbs at e
  split at e
  · cases e
    obtain ⟨v, hv, p1⟩ := p.one
    subst hv
    replace p := p1
    exact ⟨_, by rw [p.int], k _ T H .refl r (new_of rfl (.int _))⟩
  · cases e⟩
theorem bi_max (hc : X.calm = true) : BiR X M (.builtin "max") evMax := ⟨_, call_max2 hc, fun T σ H env S ds vs d Q r p e k => by
  unfold evMax at e
  split at e
  · cases e
    obtain ⟨u, v, rfl, p1, p2⟩ := p.two
    exact ⟨_, _, by rw [p1.int, p2.int], k _ T H .refl r (new_of rfl (.int _))⟩
  · cases e⟩
theorem bi_min (hc : X.calm = true) : BiR X M (.builtin "min") evMin := ⟨_, call_min2 hc, fun T σ H env S ds vs d Q r p e k => by
  unfold evMin at e
  split at e
  · cases e
    obtain ⟨u, v, rfl, p1, p2⟩ := p.two
    exact ⟨_, _, by rw [p1.int, p2.int], k _ T H .refl r (new_of rfl (.int _))⟩
  · cases e⟩
theorem bi_int : BiR X M (.type "int") evInt := ⟨_, call_int1, fun T σ H env S ds vs d Q r p e k => by
  unfold evInt at e
  split at e
  · cases e
    obtain ⟨v, hv, p1⟩ := p.one
    subst hv
    replace p := p1
    exact .inl ⟨_, by rw [p.int], k _ T H .refl r (new_of rfl (.int _))⟩
  · cases e
    obtain ⟨v, hv, p1⟩ := p.one
    subst hv
    replace p := p1
    exact .inr ⟨_, by rw [p.bl], k _ T H .refl r (new_of rfl (.int _))⟩
  · cases e⟩
theorem bi_str : BiR X M (.type "str") evStr := ⟨_, call_str_int, fun T σ H env S ds vs d Q r p e k => by
  unfold evStr at e
  split at e
  · split at e
    · rename_i hl
      cases e
      obtain ⟨v, hv, p1⟩ := p.one
      subst hv
      replace p := p1
      exact ⟨_, by rw [p.int], hl, k _ T H .refl r (new_of rfl (.str _))⟩
    · cases e
  · cases e⟩
theorem rep_int {i : Int} (h : Rep M T H v (.int i)) : v = .int i := by cases h; rfl
theorem rep_str {i : Str} (h : Rep M T H v (.str i)) : v = .str i := by cases h; rfl
theorem rep_bl {i : Bool} (h : Rep M T H v (.bl i)) : v = .bl i := by cases h; rfl
theorem strs_rep : ∀ {vs : List V} {ds : List D} {xs : List Str}, RepAll M T H vs ds → strsD ds = some xs → vs = xs.map V.str ∧ ds = xs.map D.str
  | _, _, _, .nil, e => by cases e; exact ⟨rfl, rfl⟩
  | _, d :: ds, _, .cons r t, e => by
    cases d with
    | str x =>
      unfold strsD at e
      cases q : strsD ds with
      | none => rw [q] at e; cases e
      | some ys =>
        rw [q] at e
        cases e
        obtain ⟨h1, h2⟩ := strs_rep t q
        rw [rep_str r, h1, h2]
        exact ⟨rfl, rfl⟩
    | _ => cases e
theorem ints_rep : ∀ {vs : List V} {ds : List D} {xs : List Int}, RepAll M T H vs ds → intsD ds = some xs → vs = xs.map V.int ∧ ds = xs.map D.int
  | _, _, _, .nil, e => by cases e; exact ⟨rfl, rfl⟩
  | _, d :: ds, _, .cons r t, e => by
    cases d with
    | int x =>
      unfold intsD at e
      cases q : intsD ds with
      | none => rw [q] at e; cases e
      | some ys =>
        rw [q] at e
        cases e
        obtain ⟨h1, h2⟩ := ints_rep t q
        rw [rep_int r, h1, h2]
        exact ⟨rfl, rfl⟩
    | _ => cases e
theorem bools_rep : ∀ {vs : List V} {ds : List D} {xs : List Bool}, RepAll M T H vs ds → boolsD ds = some xs → vs = xs.map V.bl
  | _, _, _, .nil, e => by cases e; rfl
  | _, d :: ds, _, .cons r t, e => by
    cases d with
    | bl x =>
      unfold boolsD at e
      cases q : boolsD ds with
      | none => rw [q] at e; cases e
      | some ys =>
        rw [q] at e
        cases e
        rw [rep_bl r, bools_rep t q]
        rfl
    | _ => cases e
theorem all_rep_str : ∀ xs : List Str, RepAll M T H (xs.map V.str) (xs.map D.str)
  | [] => .nil
  | x :: r => .cons (.str x) (all_rep_str r)
theorem all_rep_int : ∀ xs : List Int, RepAll M T H (xs.map V.int) (xs.map D.int)
  | [] => .nil
  | x :: r => .cons (.int x) (all_rep_int r)
theorem all_rep_key : ∀ xs : List Key, RepAll M T H (xs.map kV) (xs.map dKey)
  | [] => .nil
  | .inl i :: r => .cons (.int i) (all_rep_key r)
  | .inr i :: r => .cons (.str i) (all_rep_key r)
theorem bi_all (hK : M.K = X.K) (hc : X.calm = true) : BiR X M (.builtin "all") evAll := ⟨_, cr_all hc, fun T σ H env S ds vs d Q r p e k => by
  unfold evAll at e
  split at e
  · rename_i xs
    cases q : boolsD xs with
    | none => rw [q] at e; cases e
    | some bs =>
      rw [q] at e
      cases e
      obtain ⟨v, hv, p1⟩ := p.one
      subst hv
      replace p := p1
      obtain ⟨a, us, rfl, ha, rp⟩ := p.lst
      have e2 := bools_rep rp q
      subst e2
      exact ⟨a, bs, rfl, .inl (.inl ha), k _ T H .refl r (new_of rfl (.bl _))⟩
  · cases e⟩
def listSq : D → Option D
  | .lst xs => some (.lst xs)
  | .tup xs => some (.lst xs)
  | _ => none
def listDk : D → Option D
  | .dct kvs => some (.lst (kvs.map fun kv => dKey kv.1))
  | _ => none
theorem bi_list (hK : M.K = X.K) (hc : X.calm = true) : BiR X M (.type "list") evList := by
  refine bi_or (g1 := on1 listSq) (g2 := on1 listDk) ⟨_, call_list_of, fun T σ H env S ds vs d Q r p e k => ?_⟩ ⟨_, call_listD hc, fun T σ H env S ds vs d Q r p e k => ?_⟩ fun ds d e => ?_
  · obtain ⟨x, hx, e1⟩ := on1_eq e
    subst hx
    replace e := e1
    obtain ⟨v, hv, p1⟩ := p.one
    subst hv
    replace p := p1
    cases x with
    | lst xs =>
      cases e
      obtain ⟨q, us, rfl, hq, rp⟩ := p.lst
      refine ⟨q, us, rfl, .inl (.inl (.inl hq)), fun l hl => ?_⟩
      obtain ⟨ev, r1, nd⟩ := new_lst r hl rp
      exact k _ _ _ ev r1 (new_node rfl hl tag_same nd)
    | tup xs =>
      cases e
      obtain ⟨q, us, rfl, hq, rp⟩ := p.tup
      refine ⟨q, us, rfl, .inr (by rw [← hK]; exact hq), fun l hl => ?_⟩
      obtain ⟨ev, r1, nd⟩ := new_lst r hl rp
      exact k _ _ _ ev r1 (new_node rfl hl tag_same nd)
    | _ => cases e
  · obtain ⟨x, hx, e1⟩ := on1_eq e
    subst hx
    replace e := e1
    obtain ⟨v, hv, p1⟩ := p.one
    subst hv
    replace p := p1
    cases x with
    | dct kvs =>
      cases e
      obtain ⟨q, us, rfl, hq, hf, rp⟩ := p.dct
      refine ⟨q, us, rfl, hq, fun l hl => ?_⟩
      have e2 : (us.map fun kv => kV kv.1) = (us.map Prod.fst).map kV := by rw [List.map_map]; rfl
      have e3 : (kvs.map fun kv => dKey kv.1) = (kvs.map Prod.fst).map dKey := by rw [List.map_map]; rfl
      rw [e2, hf]
      obtain ⟨ev, r1, nd⟩ := new_lst r hl (all_rep_key (M := M) (T := T) (H := H) (kvs.map Prod.fst))
      exact k _ _ _ ev r1 (new_node rfl hl tag_same (by rw [e3]; exact nd))
    | _ => cases e
  · unfold evList at e
    split at e
    · exact .inl e
    · exact .inl e
    · exact .inr e
    · cases e
theorem bi_tuple (hK : M.K = X.K) : BiR X M (.type "tuple") evTuple := ⟨_, call_tuple_of, fun T σ H env S ds vs d Q r p e k => by
  unfold evTuple at e
  split at e
  · cases e
    obtain ⟨v, hv, p1⟩ := p.one
    subst hv
    replace p := p1
    obtain ⟨q, us, rfl, hq, rp⟩ := p.lst
    refine ⟨q, us, rfl, .inl ⟨.inl (.inl hq), fun l hl => ?_⟩⟩
    obtain ⟨ev, r1, rp'⟩ := new_tup r hl rp
    exact k _ _ _ ev r1 (new_of rfl rp')
  · cases e
    obtain ⟨v, hv, p1⟩ := p.one
    subst hv
    replace p := p1
    obtain ⟨q, us, rfl, hq, rp⟩ := p.tup
    exact ⟨q, us, rfl, .inr ⟨by rw [← hK]; exact hq, k _ T H .refl r (new_of rfl (.tup hq rp))⟩⟩
  · cases e⟩
theorem insS_perm (x : Str) : ∀ ys : List Str, (insS x ys).Perm (x :: ys)
  | [] => .refl _
  | y :: r => by
    unfold insS
    split
    · exact ((insS_perm x r).cons y).trans (.swap x y r)
    · exact .refl _
theorem srtS_perm : ∀ ys : List Str, (srtS ys).Perm ys
  | [] => .refl _
  | y :: r => (insS_perm y (srtS r)).trans ((srtS_perm r).cons y)
theorem insI_perm (x : Int) : ∀ ys : List Int, (insI x ys).Perm (x :: ys)
  | [] => .refl _
  | y :: r => by
    unfold insI
    split
    · exact ((insI_perm x r).cons y).trans (.swap x y r)
    · exact .refl _
theorem srtI_perm : ∀ ys : List Int, (srtI ys).Perm ys
  | [] => .refl _
  | y :: r => (insI_perm y (srtI r)).trans ((srtI_perm r).cons y)
def leS (x y : Str) : Prop := x.cps.toList ≤ y.cps.toList
theorem leS_trans {x y z : Str} (h : leS x y) (h' : leS y z) : leS x z := List.le_trans h h'
theorem leS_antisymm {x y : Str} (h : leS x y) (h' : leS y x) : x = y := by
  have e := List.le_antisymm h h'
  obtain ⟨a⟩ := x
  obtain ⟨b⟩ := y
  have : a = b := Array.toList_inj.mp e
  rw [this]
theorem rising_le : ∀ {ys : List Str} {x : Str}, PyProof.Rows.risingS x ys = true → (x :: ys).Pairwise leS
  | [], x, _ => .cons (fun _ h => by cases h) .nil
  | y :: r, x, h => by
    simp only [PyProof.Rows.risingS, Bool.and_eq_true, Bool.not_eq_true'] at h
    have h1 : leS x y := by
      have := h.1
      rw [PyProof.Rows.ltCps_eq] at this
      exact List.not_lt.mp (of_decide_eq_false this)
    have h2 := rising_le h.2
    refine .cons (fun z hz => ?_) h2
    rcases List.mem_cons.mp hz with rfl | hz
    · exact h1
    · cases h2 with
      | cons k _ => exact leS_trans h1 (k z hz)
theorem sortedS_le {ys : List Str} (h : PyProof.Rows.sortedS ys = true) : ys.Pairwise leS := by
  cases ys with
  | nil => exact .nil
  | cons x r => exact rising_le h
theorem insS_le {x : Str} : ∀ {ys : List Str}, ys.Pairwise leS → (insS x ys).Pairwise leS
  | [], _ => .cons (fun _ h => by cases h) .nil
  | y :: r, h => by
    unfold insS
    cases h with
    | cons h1 h2 =>
      split
      · rename_i q
        refine .cons (fun z hz => ?_) (insS_le h2)
        rcases List.mem_cons.mp ((insS_perm x r).mem_iff.mp hz) with rfl | hz
        · exact List.le_of_lt (of_decide_eq_true q)
        · exact h1 z hz
      · rename_i q
        have q' : leS x y := List.not_lt.mp fun w => q (decide_eq_true w)
        refine .cons (fun z hz => ?_) (.cons h1 h2)
        rcases List.mem_cons.mp hz with rfl | hz
        · exact q'
        · exact leS_trans q' (h1 z hz)
theorem srtS_le : ∀ ys : List Str, (srtS ys).Pairwise leS
  | [] => .nil
  | y :: r => insS_le (srtS_le r)
theorem srtS_one {xs ys : List Str} (p : ys.Perm xs) (h : PyProof.Rows.sortedS ys = true) : ys = srtS xs :=
  List.Perm.eq_of_pairwise (fun _ _ _ _ a b => leS_antisymm a b) (sortedS_le h) (srtS_le xs) (p.trans (srtS_perm xs).symm)
theorem insI_le {x : Int} : ∀ {ys : List Int}, ys.Pairwise (· ≤ ·) → (insI x ys).Pairwise (· ≤ ·)
  | [], _ => .cons (fun _ h => by cases h) .nil
  | y :: r, h => by
    unfold insI
    cases h with
    | cons h1 h2 =>
      split
      · rename_i q
        refine .cons (fun z hz => ?_) (insI_le h2)
        rcases List.mem_cons.mp ((insI_perm x r).mem_iff.mp hz) with rfl | hz
        · omega
        · exact h1 z hz
      · rename_i q
        refine .cons (fun z hz => ?_) (.cons h1 h2)
        rcases List.mem_cons.mp hz with rfl | hz
        · omega
        · have := h1 z hz
          omega
theorem srtI_le : ∀ ys : List Int, (srtI ys).Pairwise (· ≤ ·)
  | [] => .nil
  | y :: r => insI_le (srtI_le r)
theorem srtI_one {xs ys : List Int} (p : ys.Perm xs) (h : ys.Pairwise (· ≤ ·)) : ys = srtI xs :=
  List.Perm.eq_of_pairwise (fun _ _ _ _ a b => by omega) h (srtI_le xs) (p.trans (srtI_perm xs).symm)
def sortLs : D → Option D
  | .lst xs => match strsD xs with
    | some xs => if xs.length < 64 then some (.lst ((srtS xs).map D.str)) else none
    | none => none
  | _ => none
def sortLi : D → Option D
  | .lst xs => match intsD xs with
    | some xs => if xs.length < 64 then some (.lst ((srtI xs).map D.int)) else none
    | none => none
  | _ => none
def sortDk : D → Option D
  | .dct kvs => srtD (kvs.map fun kv => dKey kv.1)
  | _ => none
theorem strs_keys : ∀ {ks : List Key} {xs : List Str}, strsD (ks.map dKey) = some xs → ks = xs.map Sum.inr
  | [], _, e => by cases e; rfl
  | .inl i :: r, _, e => by cases e
  | .inr i :: r, _, e => by
    have e' : (strsD (r.map dKey)).map (i :: ·) = some _ := e
    cases q : strsD (r.map dKey) with
    | none => rw [q] at e'; cases e'
    | some ys => rw [q] at e'; cases e'; rw [strs_keys q]; rfl
theorem ints_keys : ∀ {ks : List Key} {xs : List Int}, intsD (ks.map dKey) = some xs → ks = xs.map Sum.inl
  | [], _, e => by cases e; rfl
  | .inr i :: r, _, e => by cases e
  | .inl i :: r, _, e => by
    have e' : (intsD (r.map dKey)).map (i :: ·) = some _ := e
    cases q : intsD (r.map dKey) with
    | none => rw [q] at e'; cases e'
    | some ys => rw [q] at e'; cases e'; rw [ints_keys q]; rfl
theorem srtD_eq (e : srtD ds = some d) : (∃ xs, strsD ds = some xs ∧ xs.length < 64 ∧ d = .lst ((srtS xs).map D.str)) ∨ ∃ xs, intsD ds = some xs ∧ xs.length < 64 ∧ d = .lst ((srtI xs).map D.int) := by
  unfold srtD at e
  split at e
  · rename_i xs q
    split at e
    · rename_i h; cases e; exact .inl ⟨xs, q, h, rfl⟩
    · cases e
  · split at e
    · rename_i xs q
      split at e
      · rename_i h; cases e; exact .inr ⟨xs, q, h, rfl⟩
      · cases e
    · cases e
theorem bi_sorted (hK : M.K = X.K) (hc : X.calm = true) : BiR X M (.builtin "sorted") evSorted := by
  refine ⟨_, (cr_sorted.or cr_sortedS).or ((call_sortedD hc).or (call_sortedDI hc)), fun T σ H env S ds vs d Q r p e k => ?_⟩
  unfold evSorted at e
  split at e
  · rename_i xs
    obtain ⟨v, hv, p1⟩ := p.one
    subst hv
    obtain ⟨a, us, rfl, ha, rp⟩ := p1.lst
    rcases srtD_eq e with ⟨zs, q, h64, rfl⟩ | ⟨zs, q, h64, rfl⟩
    · obtain ⟨h1, h2⟩ := strs_rep rp q
      refine .inl (.inr ⟨a, zs, rfl, .inl (.inl (by rw [← h1]; exact ha)), h64, fun ys l hp hs hl => ?_⟩)
      rw [srtS_one hp hs]
      obtain ⟨ev, r1, nd⟩ := new_lst r hl (all_rep_str (M := M) (T := T) (H := H) (srtS zs))
      exact k _ _ _ ev r1 (new_node rfl hl tag_same nd)
    · obtain ⟨h1, h2⟩ := ints_rep rp q
      refine .inl (.inl ⟨a, zs, rfl, .inl (.inl (by rw [← h1]; exact ha)), h64, fun ys l hp hs hl => ?_⟩)
      rw [srtI_one hp hs]
      obtain ⟨ev, r1, nd⟩ := new_lst r hl (all_rep_int (M := M) (T := T) (H := H) (srtI zs))
      exact k _ _ _ ev r1 (new_node rfl hl tag_same nd)
  · rename_i kvs
    obtain ⟨v, hv, p1⟩ := p.one
    subst hv
    obtain ⟨a, us, rfl, ha, hf, rp⟩ := p1.dct
    have e3 : (kvs.map fun kv => dKey kv.1) = (kvs.map Prod.fst).map dKey := by rw [List.map_map]; rfl
    rw [e3] at e
    rcases srtD_eq e with ⟨zs, q, h64, rfl⟩ | ⟨zs, q, h64, rfl⟩
    · have h1 := strs_keys q
      refine .inr (.inl ⟨a, us, zs, rfl, ha, by rw [← h1]; exact hf, h64, fun ys l hp hs hl => ?_⟩)
      rw [srtS_one hp hs]
      obtain ⟨ev, r1, nd⟩ := new_lst r hl (all_rep_str (M := M) (T := T) (H := H) (srtS zs))
      exact k _ _ _ ev r1 (new_node rfl hl tag_same nd)
    · have h1 := ints_keys q
      refine .inr (.inr ⟨a, us, zs, rfl, ha, by rw [← h1]; exact hf, h64, fun ys l hp hs hl => ?_⟩)
      rw [srtI_one hp hs]
      obtain ⟨ev, r1, nd⟩ := new_lst r hl (all_rep_int (M := M) (T := T) (H := H) (srtI zs))
      exact k _ _ _ ev r1 (new_node rfl hl tag_same nd)
  · cases e
def noStar : List Expr → Bool
  | [] => true
  | e :: r => (match e with | .Starred _ _ => false | _ => true) && noStar r
theorem star_cons {env : Env} (h : noStar (a :: es) = true) : starEach (a :: es) env = (false, eval a env) :: starEach es env := by
  cases a <;> first | rfl | (simp [noStar] at h)
theorem star_any {env : Env} : ∀ {es : List Expr}, noStar es = true → (backTo pos (starEach es env)).any (·.1) = false
  | [], _ => rfl
  | a :: es, h => by
    have h2 : noStar es = true := by
      simp only [noStar, Bool.and_eq_true] at h
      exact h.2
    rw [star_cons h]
    have := star_any (env := env) h2
    show (false || (backTo pos (starEach es env)).any (·.1)) = false
    rw [this]
    rfl
theorem noStar_tail (h : noStar (a :: es) = true) : noStar es = true := by
  simp only [noStar, Bool.and_eq_true] at h
  exact h.2
theorem New.back (ev : Ev T H T1 H1) {w : V} {H' : Hp} {T' : Tg} (nw : New M T' H1 H' w d) : New M T' H H' w d := by
  unfold New at nw ⊢
  cases q : isNode d with
  | false => rw [q] at nw; exact nw
  | true => rw [q] at nw; obtain ⟨y, h1, h2, h3⟩ := nw; exact ⟨y, h1, ev_free ev h2, h3⟩
theorem rx_bi {id : String} {x : Str} {f : Nat} {p : Pos} (h : BiR X M (.builtin id) (evBi f)) (hg : Gl X x) (hm : X.mg x = none) (hv : bootBuiltins x = some (.builtin id)) (hn : x ≠ "__name__") (hdb : (x == ("__debug__" : Str)) = false) (ha : PA X (a :: es) (RBs M B φ ss)) (hs : noStar (a :: es) = true) :
    PE X (.Call (.Name x p) (a :: es) [] pos) (RX M B φ (.bi f ss)) := by
  obtain ⟨r, h1, k1⟩ := h
  refine PE.imp (pe_callB h1 hg hm hv ha hn hdb (star_cons hs) (star_any (noStar_tail hs))) fun σ H Q ⟨T, env, S, d, S1, r, e, k⟩ => ?_
  simp only [evE] at e
  obtain ⟨ds, Sx, ex, e⟩ := bnd_eq e
  obtain ⟨e1, hS⟩ := lift_some e
  subst hS
  exact ⟨T, env, S, ds, Sx, r, ex, fun vs T1 H1 ev1 r1 ps => k1 T1 σ H1 env Sx ds vs d Q r1 ps e1 fun w T' H' ev' rl' nw => k w T' H' (ev1.then ev') rl' (nw.back ev1)⟩
theorem rx_ty {id : String} {x : Str} {f : Nat} {p : Pos} (h : BiR X M (.type id) (evBi f)) (hg : Gl X x) (hm : X.mg x = none) (hv : bootBuiltins x = some (.type id)) (hn : x ≠ "__name__") (hdb : (x == ("__debug__" : Str)) = false) (ha : PA X (a :: es) (RBs M B φ ss)) (hs : noStar (a :: es) = true) :
    PE X (.Call (.Name x p) (a :: es) [] pos) (RX M B φ (.bi f ss)) := by
  obtain ⟨r, h1, k1⟩ := h
  refine PE.imp (pe_callTy h1 hg hm hv ha hn hdb (star_cons hs) (star_any (noStar_tail hs))) fun σ H Q ⟨T, env, S, d, S1, r, e, k⟩ => ?_
  simp only [evE] at e
  obtain ⟨ds, Sx, ex, e⟩ := bnd_eq e
  obtain ⟨e1, hS⟩ := lift_some e
  subst hS
  exact ⟨T, env, S, ds, Sx, r, ex, fun vs T1 H1 ev1 r1 ps => k1 T1 σ H1 env Sx ds vs d Q r1 ps e1 fun w T' H' ev' rl' nw => k w T' H' (ev1.then ev') rl' (nw.back ev1)⟩
end
end RI
end

section
namespace RI
open PySem PySem.Spec L2
/-- no slots of a frame among the tags -/
def noSlot (T : Tg) : Prop := ∀ a i, T a ≠ some (.slot i)
/-- the tags as a callee sees them -/
def seen (T : Tg) : Tg := fun a => match T a with
  | some (.slot _) => some .out
  | t => t
/-- the tags behind a call -/
def back (T T' : Tg) : Tg := fun a => match T a with
  | some (.slot i) => some (.slot i)
  | _ => seen T' a
section
variable {M : Nm} {T T' : Tg} {σ : L2.St} {H H' : Hp} {env : List Slot} {S S1 : Store} {v : V} {d : D} {a : Addr} {i n : Nat}
theorem seen_none : seen T a = none ↔ T a = none := by
  unfold seen
  cases q : T a with
  | none => simp
  | some t => cases t <;> simp
theorem seen_cell : seen T a = some (.cell n) ↔ T a = some (.cell n) := by
  unfold seen
  cases q : T a with
  | none => simp
  | some t => cases t <;> simp
theorem seen_own : isOwned (seen T a) = isOwned (T a) := by
  unfold seen
  cases q : T a with
  | none => rfl
  | some t => cases t <;> rfl
theorem seen_slot : noSlot (seen T) := fun a i h => by
  unfold seen at h
  cases q : T a with
  | none => simp [q] at h
  | some t => cases t <;> simp [q] at h
theorem les_seen : Les T (seen T) := ⟨fun a h => seen_none.mpr h, fun a n h => seen_cell.mpr h⟩
theorem Rel.seen (r : Rel M T σ H env S) : Rel M (seen T) [] H [] S :=
  ⟨rfl, fun i => trivial, fun a t h => by
    cases q : T a with
    | none => rw [seen_none.mpr q] at h; cases h
    | some t' => exact r.tg a t' q,
   ⟨fun n c h => by
      obtain ⟨a, t, ok⟩ := r.st.cell n c h
      exact ⟨a, seen_cell.mpr t, ok.les les_seen⟩,
    fun a b n h h' => r.st.uniq a b n (seen_cell.mp h) (seen_cell.mp h'), fun a n h => r.st.range a n (seen_cell.mp h)⟩⟩
theorem back_of (ev : Ev (seen T) H T' H') (h : ∀ i, T a ≠ some (.slot i)) : back T T' a = RI.seen T' a := by
  unfold back
  cases q : T a with
  | none => rfl
  | some t =>
    cases t with
    | slot i => exact absurd q (h i)
    | _ => rfl
theorem back_slot (h : T a = some (.slot i)) : back T T' a = some (.slot i) := by
  unfold back
  rw [h]
theorem seen_out (h : T a = some (.slot i)) : RI.seen T a = some .out := by
  unfold RI.seen
  rw [h]
theorem les_back (ev : Ev (RI.seen T) H T' H') : Les T' (back T T') := by
  refine ⟨fun a h => ?_, fun a n h => ?_⟩
  · rw [back_of ev, seen_none]
    · exact h
    · intro i q
      have := ev.outs a (seen_out q)
      rw [h] at this
      cases this
  · rw [back_of ev, seen_cell]
    · exact h
    · intro i q
      have := ev.outs a (seen_out q)
      rw [h] at this
      cases this
theorem back_cell (ev : Ev (RI.seen T) H T' H') (h : back T T' a = some (.cell n)) : T' a = some (.cell n) := by
  by_cases q : ∃ i, T a = some (.slot i)
  · obtain ⟨i, q⟩ := q
    rw [back_slot q] at h
    cases h
  · rw [back_of ev fun i z => q ⟨i, z⟩] at h
    exact seen_cell.mp h
/-- behind a call -/
theorem Rel.back (r : Rel M T σ H env S) (ev : Ev (RI.seen T) H T' H') (rl : Rel M T' [] H' [] S1) : Ev T H (back T T') H' ∧ Rel M (RI.back T T') σ H' env S1 := by
  have key : ∀ a t, T a = some t → (∀ i, t ≠ .slot i) → ∀ i, T a ≠ some (.slot i) := fun a t h n i q => by rw [h] at q; cases q; exact n i rfl
  have e : Ev T H (RI.back T T') H' := by
    refine ⟨fun a o h n => ev.keep a o h (by rw [seen_own]; exact n), ev.tups, ev.frzs, fun a t h n => ?_, fun a n h => ?_, fun a h => ?_, fun a i h => back_slot h, ev.there⟩
    · rw [back_of ev fun i q => by rw [n] at q; cases q] at h
      cases q : T' a with
      | none => rw [seen_none.mpr q] at h; cases h
      | some t' => exact ev.new a t' q (seen_none.mpr n)
    · rw [back_of ev (key a _ h (by intro i z; cases z)), seen_cell]
      exact ev.cells a n (seen_cell.mpr h)
    · rw [back_of ev (key a _ h (by intro i z; cases z))]
      have h1 : RI.seen T a = some .out := by unfold RI.seen; rw [h]
      have h2 := ev.outs a h1
      unfold RI.seen
      rw [h2]
  refine ⟨e, r.go e (fun a t h => ?_) ⟨fun n c h => ?_, fun a b n h h' => rl.st.uniq a b n (back_cell ev h) (back_cell ev h'), fun a n h => rl.st.range a n (back_cell ev h)⟩⟩
  · by_cases q : ∃ i, T a = some (.slot i)
    · obtain ⟨i, q⟩ := q
      obtain ⟨o, w⟩ := r.tg a _ q
      exact ev.there a o w
    · rw [back_of ev fun i z => q ⟨i, z⟩] at h
      cases w : T' a with
      | none => rw [seen_none.mpr w] at h; cases h
      | some t' => exact rl.tg a t' w
  · obtain ⟨a, t, ok⟩ := rl.st.cell n c h
    exact ⟨a, (les_back ev).cell a n t, ok.les (les_back ev)⟩
end
/-- what a def promises: it hands back what φ says -/
def npar (B : Tb) (f : Nat) : Nat := match B.fn f with
  | some fn => fn.ps
  | none => 0
def spF (M : Nm) (B : Tb) (φ : Phi) (f : Nat) : Sp := fun vs H Q _ => vs.length = npar B f ∧ ∃ T S ds d S1, Rel M T [] H [] S ∧ noSlot T ∧ RepAll M T H vs ds ∧ φ f ds S = some (d, S1) ∧
  ∀ v T' H', Ev T H T' H' → Rel M T' [] H' [] S1 → Rep M T' H' v d → Q v H'
section
variable {X : Cx} {M : Nm} {B : Tb} {φ : Phi} {a b c o : Expr} {sa sb sc : SE} {pos : Pos} {rest : List Expr} {T T1 T2 T3 : Tg} {σ : L2.St} {H H1 H2 : Hp} {env : List Slot} {S S1 S2 S3 : Store} {x y z d : D} {u v : V} {es : List Expr} {ss : List SE} {ds : List D} {vs : List V}
theorem sp_use {f : Nat} {Q : VK} {E : XK} (r : Rel M T σ H env S) (ps : RepAll M T H vs ds) (hl : vs.length = npar B f) (e : φ f ds S = some (d, S1))
    (k : ∀ v T' H', Ev T H T' H' → Rel M T' σ H' env S1 → Rep M T' H' v d → Q v H') : spF M B φ f vs H Q E :=
  ⟨hl, seen T, S, ds, d, S1, r.seen, seen_slot, ps.les les_seen, e, fun v T' H' ev rl rp => by
    obtain ⟨ev', rl'⟩ := r.back ev rl
    exact k v _ H' ev' rl' (rp.les (les_back ev))⟩
/-- the defaults -/
def Dfl (M : Nm) (dvs : List V) (dds : List D) : Prop := ∀ T H, RepAll M T H dvs dds
theorem re_call {CX : CXT} {k f : Nat} {fa : Addr} {fd : FuncData} {ps : List Str} {x : Str} {p : Pos} {dvs : List V} {dvl : List Value} {dds : List D} {ss' : List SE} (F : FnOk X.prog X.w X.K X.mg X.base CX k fa fd ps (spF M B φ f)) (hr : Room k X.A) (hg : Gl X x) (hm : X.mg x = some (.ref fa)) (hk : PySem.W.keepIn X.K (.ref fa) = true)
    (hb : Binds X.K fd ps dvl) (hd : Vals dvs dvl) (hx : Passes CX X fun _ _ _ => False) (hdf : Dfl M dvs dds) (hlen : (a :: es).length + dvs.length = npar B f) (hl2 : (a :: es).length = ss.length)
    (hss : ∀ env S r, evEs B φ (ss ++ ss') env S = some r → ∃ q S1, evEs B φ ss env S = some (q, S1) ∧ r = (q ++ dds, S1)) (ha : PA X (a :: es) (RAs M B φ ss)) (hdb : (x == ("__debug__" : Str)) = false) (hs : noStar (a :: es) = true) :
    PE X (.Call (.Name x p) (a :: es) [] pos) (RE M B φ (.call f (ss ++ ss'))) := by
  refine PE.imp (pe_call F hr hg hm hk hb hd hx ha hdb (star_cons hs) (star_any (noStar_tail hs))) fun σ H Q ⟨T, env, S, d, S1, r, e, k⟩ => ?_
  simp only [evE] at e
  obtain ⟨q, Sx, ex, e⟩ := bnd_eq e
  obtain ⟨q', S', e1, e2⟩ := hss _ _ _ ex
  cases e2
  refine ⟨T, env, S, q', _, r, e1, fun vs T1 H1 ev1 r1 ps => ?_⟩
  have hlq : ∀ {ss : List SE} {env S q S1}, evEs B φ ss env S = some (q, S1) → q.length = ss.length := by
    intro ss
    induction ss with
    | nil => intro env S q S1 e; simp only [evEs] at e; cases e; rfl
    | cons s r ih =>
      intro env S q S1 e
      simp only [evEs] at e
      obtain ⟨_, _, _, e⟩ := bnd_eq e
      obtain ⟨_, _, e2, e⟩ := bnd_eq e
      cases e
      rw [List.length_cons, List.length_cons, ih e2]
  exact sp_use r1 (ps.append (hdf T1 H1)) (by rw [List.length_append, ps.length, hlq e1, ← hl2]; exact hlen) e fun v T' H' ev' rl' rp => k v T' H' (ev1.then ev') rl' rp
end
end RI
end

section
namespace RI
open PySem PySem.Spec L2
section
variable {X : Cx} {M : Nm} {B : Tb} {φ : Phi} {a b c o : Expr} {sa sb sc : SE} {pos apos : Pos} {rest : List Expr} {T T1 T2 T3 : Tg} {σ : L2.St} {H H1 H2 : Hp} {env : List Slot} {S S1 S2 S3 : Store} {x y z d : D} {u v : V} {es : List Expr} {ss : List SE} {ds : List D} {vs : List V}
theorem PE.ex {ι : Type} {e : Expr} {t : ι → TE} (h : ∀ i, PE X e (t i)) : PE X e (fun σ H Q => ∃ i, t i σ H Q) := ⟨fun p s σ H Q I ⟨i, q⟩ => (h i).run p s σ H Q I q⟩
theorem PE.pr {e : Expr} {t : TE} {P : Prop} (h : P → PE X e t) : PE X e (fun σ H Q => P ∧ t σ H Q) := ⟨fun p s σ H Q I ⟨i, q⟩ => (h i).run p s σ H Q I q⟩
/-- the names of fields and methods are told apart -/
def Nm.Inj (M : Nm) : Prop := ∀ i j, M.fn i = M.fn j → i = j
theorem RepB.obj {c : Nat} {fs : List (Nat × D)} (h : RepB M T H v (.obj c fs)) : ∃ a C dx gs, v = .ref a ∧ H a = some (.ins C dx gs) ∧ M.CA c = some C ∧ gs.map Prod.fst = fs.map (fun p => M.fn p.1) ∧ RepAll M T H (gs.map Prod.snd) (fs.map Prod.snd) := by
  rcases h with h | ⟨a, j, rfl, _, h⟩
  · cases h with
    | obj h n c k r => exact ⟨_, _, _, _, rfl, h, c, k, r⟩
  · cases h with
    | obj h c k r => exact ⟨_, _, _, _, rfl, h, c, k, r⟩
theorem fields_get (hi : M.Inj) (f : Nat) : ∀ {gs : List (Str × V)} {fs : List (Nat × D)}, gs.map Prod.fst = fs.map (fun p => M.fn p.1) → RepAll M T H (gs.map Prod.snd) (fs.map Prod.snd) →
    (gs.lookup (M.fn f) = none ∧ getF fs f = none) ∨ ∃ w d, gs.lookup (M.fn f) = some w ∧ getF fs f = some d ∧ Rep M T H w d
  | [], [], _, _ => .inl ⟨rfl, rfl⟩
  | [], _ :: _, e, _ => by simp at e
  | _ :: _, [], e, _ => by simp at e
  | (n, w) :: gs, (m, d) :: fs, e, r => by
    simp only [List.map_cons, List.cons.injEq] at e r
    obtain ⟨e1, e2⟩ := e
    subst e1
    cases r with
    | cons r1 r2 =>
      by_cases h : m = f
      · subst h
        refine .inr ⟨w, d, ?_, ?_, r1⟩
        · rw [List.lookup_cons, beq_self_eq_true]
        · unfold getF
          rw [List.find?_cons]
          simp
      · have h1 : ¬ M.fn f = M.fn m := fun q => h (hi _ _ q).symm
        rw [List.lookup_cons, show (M.fn f == M.fn m) = false from beq_eq_false_iff_ne.mpr h1]
        have : getF ((m, d) :: fs) f = getF fs f := by
          unfold getF
          rw [List.find?_cons, show ((m, d).1 == f) = false from beq_eq_false_iff_ne.mpr h]
        rw [this]
        exact fields_get hi f e2 r2
theorem RepB.exc {c : Nat} {fs : List (Nat × D)} (h : RepB M T H v (.exc c fs)) : ∃ a C dx gs, v = .ref a ∧ H a = some (exo a C (some dx)) ∧ H dx = some (exd dx gs) ∧ T a = none ∧ T dx = none ∧ M.CX c = some C ∧ gs.map Prod.fst = fs.map (fun p => M.fn p.1) ∧ RepAll M T H (gs.map Prod.snd) (fs.map Prod.snd) := by
  rcases h with h | ⟨a, j, rfl, _, h⟩
  · cases h with
    | exc h h' n n' c k r => exact ⟨_, _, _, _, rfl, h, h', n, n', c, k, r⟩
  · cases h
/-- a field of an own exception that is held as a value -/
def tXfv (K : PySem.W.Frag) (n : Str) (te : TE) : TE := fun σ H Q => te σ H fun x H1 => ∃ (a C dx : Addr) (fs : List (Str × V)) (v : V), x = .ref a ∧ H1 a = some (exo a C (some dx)) ∧ H1 dx = some (exd dx fs) ∧ XfC K C ∧ PySem.W.findIn K (.ref C) n = some none ∧ fs.lookup n = some v ∧ Q v H1
theorem pe_xfv {e : Expr} {te : TE} {n : Str} (he : PE X e te) (hb : attributeBase e n X.env (eval e X.env) = eval e X.env) : PE X (.Attribute e n pos) (tXfv X.K n te) := by
  refine ⟨fun pins s σ H Q I h => ?_⟩
  refine attr_of hb (thn (he.run pins s σ H _ I h) fun u s1 hh => ?_)
  obtain ⟨x, H1, I1, rx, a, C, dx, fs, v, ex, ea, ed, XC, hno, l, q⟩ := hh
  subst ex
  obtain rfl : u = Value.ref a := rx
  obtain ⟨t1, ha⟩ := exo_at I1.hok ea
  obtain ⟨mA, hns, hr⟩ := exd_at I1.hok ed
  obtain ⟨od, ho, hl⟩ := lookIn_ns hns
  obtain ⟨u, hu, ru⟩ := RelO.some_of (v := v) (o := mA n) (by rw [← l]; exact hr n)
  have J : PySem.W.InstAt s1.heap a { cls := .ref C, dict := some dx, data := .fields #[.ref t1, .none, .none, .none, .bool false, .none] } C (some od) := ⟨ha, rfl, rfl, ho⟩
  exact HandSPX.exc_get I1.kIn J XC.ga XC.gg XC.exC (PySem.W.findObj_own XC.hdC hno rfl (by rw [hl, hu])) (handed_of ru) ⟨v, H1, I1.tok _, ru, q⟩
/-- what is asked of the classes -/
structure ClsOk (X : Cx) (M : Nm) (B : Tb) : Prop where
  cls : ∀ c C, M.CA c = some C → Cls X.K C
  noat : ∀ c C f, M.CA c = some C → B.fok c f = true → NoAttr X.K C (M.fn f)
  xc : ∀ c C, M.CX c = some C → XfC X.K C
  xno : ∀ c C f, M.CX c = some C → B.xok c f = true → PySem.W.findIn X.K (.ref C) (M.fn f) = some none
theorem re_fld (hC : ClsOk X M B) (hi : M.Inj) {f : Nat} {nm : Str} (hn : M.fn f = nm) (ha : PE X a (RB M B φ sa)) (hb : attributeBase a nm X.env (eval a X.env) = eval a X.env) : PE X (.Attribute a nm pos) (RE M B φ (.fld sa f)) := by
  subst hn
  refine PE.imp (PE.or (pe_fld ha hb) (pe_xfv ha hb)) fun σ H Q ⟨T, env, S, d, S1, r, e, k⟩ => ?_
  simp only [evE] at e
  obtain ⟨x, Sx, ex, e⟩ := bnd_eq e
  cases x with
  | obj c fs =>
    dsimp only at e
    split at e
    · rename_i hf
      obtain ⟨e1, hS⟩ := lift_some e
      subst hS
      refine .inl ⟨T, env, S, _, Sx, r, ex, fun v T1 H1 ev1 r1 pv => ?_⟩
      obtain ⟨p, C, dx, gs, rfl, hp, hc, hk, rp⟩ := pv.obj
      rcases fields_get hi f hk rp with ⟨_, h⟩ | ⟨w, d', h1, h2, h3⟩
      · rw [h] at e1; cases e1
      · rw [h2] at e1
        cases e1
        exact ⟨p, C, dx, gs, w, rfl, hp, hC.cls c C hc, hC.noat c C f hc hf, h1, k w T1 H1 ev1 r1 h3⟩
    · cases e
  | exc c fs =>
    dsimp only at e
    split at e
    · rename_i hf
      obtain ⟨e1, hS⟩ := lift_some e
      subst hS
      refine .inr ⟨T, env, S, _, Sx, r, ex, fun v T1 H1 ev1 r1 pv => ?_⟩
      obtain ⟨p, C, dx, gs, rfl, hp, hd, _, _, hc, hk, rp⟩ := pv.exc
      rcases fields_get hi f hk rp with ⟨_, h⟩ | ⟨w, d', h1, h2, h3⟩
      · rw [h] at e1; cases e1
      · rw [h2] at e1
        cases e1
        exact ⟨p, C, dx, gs, w, rfl, hp, hd, hC.xc c C hc, hC.xno c C f hc hf, h1, k w T1 H1 ev1 r1 h3⟩
    · cases e
  | _ => cases e
theorem evEs_len : ∀ {ss : List SE} {env : List Slot} {S : Store} {q : List D} {S1 : Store}, evEs B φ ss env S = some (q, S1) → q.length = ss.length
  | [], _, _, _, _, e => by simp only [evEs] at e; cases e; rfl
  | s :: r, _, _, _, _, e => by
    simp only [evEs] at e
    obtain ⟨_, _, _, e⟩ := bnd_eq e
    obtain ⟨_, _, e2, e⟩ := bnd_eq e
    cases e
    rw [List.length_cons, List.length_cons, evEs_len e2]
/-- a method of a class of values -/
structure MthOk (X : Cx) (M : Nm) (B : Tb) (φ : Phi) (k : Nat) (C : Addr) (m f : Nat) : Prop where
  ex : ∃ (fa : Addr) (fd : FuncData) (ps : List Str), Meth X.K C (M.fn m) fa ∧ FnOk X.prog X.w X.K X.mg X.base CX0 k fa fd ps (spF M B φ f) ∧ Binds X.K fd ps []
theorem mth_core {m : Nat} {Q : VK} {E : XK} {d : D} {c : Nat} {fs : List (Nat × D)} {f : Nat} (hi : M.Inj) (r : Rel M T σ H env S) (ex : evE B φ sa env S = some (.obj c fs, S1)) (ey : evEs B φ ss env S1 = some (ds, S2)) (hg : getF fs m = none) (hl : ss.length + 1 = npar B f)
    {C : Addr} (hc : M.CA c = some C) (e : φ f (.obj c fs :: ds) S2 = some (d, S3)) (k : ∀ v T' H', Ev T H T' H' → Rel M T' σ H' env S3 → Rep M T' H' v d → Q v H') : tMeth C (M.fn m) (spF M B φ f) [] E (RE M B φ sa) (RAs M B φ ss) σ H Q := by
  refine ⟨T, env, S, _, S1, r, ex, fun v T1 H1 ev1 r1 pv => ?_⟩
  obtain ⟨p, C', dx, gs, rfl, hp, hc', hk, rp⟩ := pv.b.obj
  rw [hc] at hc'
  cases hc'
  have hno : gs.lookup (M.fn m) = none := by
    rcases fields_get hi m hk rp with ⟨h, _⟩ | ⟨w, d', _, h2, _⟩
    · exact h
    · rw [hg] at h2; cases h2
  refine ⟨p, dx, gs, rfl, hp, hno, T1, env, S1, ds, S2, r1, ey, fun vs T2 H2 ev2 r2 ps => ?_⟩
  show spF M B φ f (V.ref p :: (vs ++ [])) H2 Q E
  rw [List.append_nil]
  exact sp_use r2 (.cons (pv.ev ev2) ps) (by rw [List.length_cons, ps.length, evEs_len ey]; exact hl) e fun v T' H' ev' rl' rp' => k v T' H' ((ev1.then ev2).then ev') rl' rp'
theorem mth_eq {m : Nat} (e : evE B φ (.mth sa m ss) env S = some (d, S3)) : ∃ c fs ds S1 S2 f, evE B φ sa env S = some (.obj c fs, S1) ∧ evEs B φ ss env S1 = some (ds, S2) ∧ getF fs m = none ∧ B.meth c m = some f ∧ φ f (.obj c fs :: ds) S2 = some (d, S3) := by
  simp only [evE] at e
  obtain ⟨x, Sx, ex, e⟩ := bnd_eq e
  obtain ⟨ds, Sy, ey, e⟩ := bnd_eq e
  cases x with
  | obj c fs =>
    dsimp only at e
    split at e
    · rename_i hn
      cases hm : B.meth c m with
      | none => rw [hm] at e; cases e
      | some f => rw [hm] at e; exact ⟨c, fs, ds, Sx, Sy, f, ex, ey, Option.isNone_iff_eq_none.mp hn, hm, e⟩
    · cases e
  | _ => cases e
theorem re_mth {k : Nat} {m : Nat} {nm : Str} (hn : M.fn m = nm) (hC : ClsOk X M B) (hi : M.Inj) (hr : Room k X.A) (hx : Passes CX0 X fun _ _ _ => False)
    (hm : ∀ c C f, M.CA c = some C → B.meth c m = some f → MthOk X M B φ k C m f) (hall : ∀ c f, B.meth c m = some f → (∃ C, M.CA c = some C) ∧ ss.length + 1 = npar B f) (ho : PE X o (RE M B φ sa)) (ha : PA X (a :: es) (RAs M B φ ss)) (hs : noStar (a :: es) = true)
    (ht : eval (.Call (.Attribute o nm apos) (a :: es) [] pos) X.env = (do
      let ov ← eval o X.env
      standAt apos.atName
      let (f, first) ← holding [ov] (getMethod ov nm (do return (← importBound o X.env).getD true))
      callWith pos f first (backTo pos (starEach (a :: es) X.env)) (backToKw pos (keywordEach [] X.env)))) :
    PE X (.Call (.Attribute o nm apos) (a :: es) [] pos) (RE M B φ (.mth sa m ss)) := by
  subst hn
  have fam : ∀ i : Nat × Addr × Nat, PE X (.Call (.Attribute o (M.fn m) apos) (a :: es) [] pos) (fun σ H Q => (M.CA i.1 = some i.2.1 ∧ B.meth i.1 m = some i.2.2) ∧ tMeth i.2.1 (M.fn m) (spF M B φ i.2.2) [] (fun _ _ _ => False) (RE M B φ sa) (RAs M B φ ss) σ H Q) := fun i => by
    refine PE.pr fun h => ?_
    obtain ⟨fa, fd, ps, hM, F, hb⟩ := (hm i.1 i.2.1 i.2.2 h.1 h.2).ex
    exact pe_meth (dvs := []) ho (hC.cls _ _ h.1) hM F hr hb .nil hx ha (star_cons hs) (star_any (noStar_tail hs)) ht
  refine PE.imp (PE.ex fam) fun σ H Q ⟨T, env, S, d, S3, r, e, k⟩ => ?_
  obtain ⟨c, fs, ds, S1, S2, f, ex, ey, hg, hf, e1⟩ := mth_eq e
  obtain ⟨⟨C, hc⟩, hl⟩ := hall c f hf
  exact ⟨(c, C, f), ⟨hc, hf⟩, mth_core hi r ex ey hg hl hc e1 k⟩
theorem re_mth0 {k : Nat} {m : Nat} {nm : Str} (hn : M.fn m = nm) (hC : ClsOk X M B) (hi : M.Inj) (hr : Room k X.A) (hx : Passes CX0 X fun _ _ _ => False)
    (hm : ∀ c C f, M.CA c = some C → B.meth c m = some f → MthOk X M B φ k C m f) (hall : ∀ c f, B.meth c m = some f → (∃ C, M.CA c = some C) ∧ 1 = npar B f) (ho : PE X o (RE M B φ sa))
    (ht : eval (.Call (.Attribute o nm apos) [] [] pos) X.env = (do
      let ov ← eval o X.env
      standAt apos.atName
      let (f, first) ← holding [ov] (getMethod ov nm (do return (← importBound o X.env).getD true))
      callWith pos f first (backTo pos (starEach [] X.env)) (backToKw pos (keywordEach [] X.env)))) :
    PE X (.Call (.Attribute o nm apos) [] [] pos) (RE M B φ (.mth sa m [])) := by
  subst hn
  have fam : ∀ i : Nat × Addr × Nat, PE X (.Call (.Attribute o (M.fn m) apos) [] [] pos) (fun σ H Q => (M.CA i.1 = some i.2.1 ∧ B.meth i.1 m = some i.2.2) ∧ tMeth i.2.1 (M.fn m) (spF M B φ i.2.2) [] (fun _ _ _ => False) (RE M B φ sa) tNil σ H Q) := fun i => by
    refine PE.pr fun h => ?_
    obtain ⟨fa, fd, ps, hM, F, hb⟩ := (hm i.1 i.2.1 i.2.2 h.1 h.2).ex
    exact pe_meth0 (dvs := []) ho (hC.cls _ _ h.1) hM F hr hb .nil hx ht
  refine PE.imp (PE.ex fam) fun σ H Q ⟨T, env, S, d, S3, r, e, k⟩ => ?_
  obtain ⟨c, fs, ds, S1, S2, f, ex, ey, hg, hf, e1⟩ := mth_eq e
  obtain ⟨⟨C, hc⟩, hl⟩ := hall c f hf
  have core := mth_core (ss := []) (E := fun _ _ _ => False) hi r ex ey hg hl hc e1 k
  obtain ⟨T0, env0, S0, d0, S00, r0, e0, k0⟩ := core
  refine ⟨(c, C, f), ⟨hc, hf⟩, T0, env0, S0, d0, S00, r0, e0, fun v T' H' ev rl rp => ?_⟩
  obtain ⟨p, dx, gs, h1, h2, h3, T5, env5, S5, ds5, S6, r5, e5, k5⟩ := k0 v T' H' ev rl rp
  refine ⟨p, dx, gs, h1, h2, h3, ?_⟩
  simp only [evEs] at e5
  cases e5
  exact k5 [] T5 H' .refl r5 .nil
/-- what an __init__ of a class of values promises: the object behind it -/
def spI (M : Nm) (B : Tb) (φ : Phi) (c f : Nat) : Sp := fun vs H Q _ => vs.length = npar B f + 1 ∧ ∃ x dx C H0 T S ds d S1 ws, vs = .ref x :: ws ∧ H = upd (upd H0 dx (.own x)) x (.ins C dx []) ∧ H0 x = none ∧ H0 dx = none ∧ dx ≠ x ∧ M.CA c = some C ∧
  Rel M T [] H0 [] S ∧ noSlot T ∧ RepAll M T H0 ws ds ∧ φ f ds S = some (d, S1) ∧
  ∀ T' H', Ev T H0 T' H' → Rel M T' [] H' [] S1 → T' x = some .out → Node M T' H' x d → Q .non H'
theorem node_isNode {p : Addr} (h : Node M T H p d) : isNode d = true := by cases h <;> rfl
theorem seen_of_out {p : Addr} (h : T p = some .out) : seen T p = some .out := by unfold seen; rw [h]
theorem rx_mk {k : Nat} {c f : Nat} {C fa : Addr} {fd : FuncData} {ps : List Str} {x : Str} {p : Pos} {dvs : List V} {dvl : List Value} {dds : List D} {ss' : List SE} (Mk' : Mk X.K C fa) (F : FnOk X.prog X.w X.K X.mg X.base CX0 k fa fd ps (spI M B φ c f)) (hr : Room (k + 1) X.A) (hg : Gl X x) (hm : X.mg x = some (.ref C)) (hc : M.CA c = some C) (hf : B.init c = some f)
    (hb : Binds X.K fd ps dvl) (hd : Vals dvs dvl) (hx : Passes CX0 X fun _ _ _ => False) (hdf : Dfl M dvs dds) (hlen : ss.length + dvs.length = npar B f)
    (hss : ∀ env S r, evEs B φ (ss ++ ss') env S = some r → ∃ q S1, evEs B φ ss env S = some (q, S1) ∧ r = (q ++ dds, S1)) (ha : PA X (a :: es) (RAs M B φ ss)) (hdb : (x == ("__debug__" : Str)) = false) (hs : noStar (a :: es) = true) :
    PE X (.Call (.Name x p) (a :: es) [] pos) (RX M B φ (.mk c (ss ++ ss'))) := by
  refine PE.imp (pe_make Mk' F hr hg hm hb hd hx ha hdb (star_cons hs) (star_any (noStar_tail hs))) fun σ H Q ⟨T, env, S, d, S1, r, e, k⟩ => ?_
  simp only [evE] at e
  obtain ⟨q, Sx, ex, e⟩ := bnd_eq e
  rw [hf] at e
  obtain ⟨q', S', e1, e2⟩ := hss _ _ _ ex
  cases e2
  refine ⟨T, env, S, q', _, r, e1, fun vs T1 H1 ev1 r1 ps y dy hy hdy hne => ?_⟩
  refine ⟨?_, y, dy, C, H1, seen T1, _, q' ++ dds, d, S1, vs ++ dvs, rfl, rfl, hy, hdy, hne, hc, r1.seen, seen_slot, (ps.append (hdf T1 H1)).les les_seen, e, fun T' H' ev rl tx nd => ?_⟩
  · rw [List.length_cons, List.length_append, ps.length, evEs_len e1, hlen]
  · obtain ⟨ev', rl'⟩ := r1.back ev rl
    have nt : T1 y = none := by
      cases q : T1 y with
      | none => rfl
      | some t => obtain ⟨o, z⟩ := r1.tg y t q; rw [hy] at z; cases z
    refine ⟨rfl, k _ _ H' (ev1.then ev') rl' ?_⟩
    exact new_node (node_isNode nd) (ev_free ev1 hy) (by rw [back_of ev (by intro i w; rw [nt] at w; cases w), seen_of_out tx]) (nd.les (les_back ev))
end
end RI
end

section
namespace RI
open PySem PySem.Spec L2
def isFree : Option Tag → Bool
  | none => true
  | some .out => true
  | _ => false
/-- how the heap and the tags may go on behind statements: the frame's own nodes may change too -/
structure EvS (T : Tg) (H : Hp) (T' : Tg) (H' : Hp) : Prop where
  keep : ∀ a o, H a = some o → isFree (T a) = true → H' a = some o
  tups : ∀ a xs, H a = some (.tup xs) → H' a = some (.tup xs)
  frzs : ∀ a o u, H a = some (.frz o u) → H' a = some (.frz o u)
  new : ∀ a t, T' a = some t → T a = none → H a = none
  cells : ∀ a n, T a = some (.cell n) → T' a = some (.cell n)
  outs : ∀ a, T a = some .out → T' a = some .out
  there : ∀ a o, H a = some o → ∃ o', H' a = some o'
theorem free_own {t : Option Tag} (h : isFree t = true) : isOwned t = false := by
  cases t with
  | none => rfl
  | some t => cases t <;> first | rfl | (simp [isFree] at h)
section
variable {M : Nm} {T T' T'' : Tg} {H H' H'' : Hp} {v : V} {d : D} {vs : List V} {ds : List D} {a : Addr}
theorem Ev.s (e : Ev T H T' H') : EvS T H T' H' := ⟨fun a o h n => e.keep a o h (free_own n), e.tups, e.frzs, e.new, e.cells, e.outs, e.there⟩
theorem EvS.refl : EvS T H T H := Ev.refl.s
theorem EvS.none (e : EvS T H T' H') {o : HO} (h : H a = some o) (n : T a = none) : T' a = none := by
  cases q : T' a with
  | none => rfl
  | some t => rw [e.new a t q n] at h; cases h
theorem EvS.rd (e : EvS T H T' H') {o : HO} (h : Rd H a o) (n : T a = Option.none) : Rd H' a o ∧ T' a = Option.none := by
  have f : isFree (T a) = true := by rw [n]; rfl
  rcases h with h | ⟨ob, h⟩
  · exact ⟨.inl (e.keep a _ h f), e.none h n⟩
  · exact ⟨.inr ⟨ob, e.keep a _ h f⟩, e.none h n⟩
theorem EvS.sqt {K : PySem.W.Frag} (e : EvS T H T' H') {xs : List V} (h : SqT K H a xs) : SqT K H' a xs := by
  rcases h with (h | ⟨o, h⟩) | h
  · exact .inl (.inl (e.tups a xs h))
  · exact .inl (.inr ⟨o, e.frzs a o _ h⟩)
  · exact .inr h
mutual
theorem Rep.evS (e : EvS T H T' H') : ∀ {v : V} {d : D}, Rep M T H v d → Rep M T' H' v d
  | _, _, .non => .non
  | _, _, .bl b => .bl b
  | _, _, .int i => .int i
  | _, _, .str x => .str x
  | _, _, .tup h r => .tup (e.sqt h) (RepAll.evS e r)
  | _, _, .lst h n r => .lst (e.keep _ _ h (by rw [n]; rfl)) (e.none h n) (RepAll.evS e r)
  | _, _, .dct h n k r => .dct (e.rd h n).1 (e.rd h n).2 k (RepAll.evS e r)
  | _, _, .dctT h n k r => .dctT (e.rd h n).1 (e.rd h n).2 k (RepAll.evS e r)
  | _, _, .obj h n c k r => .obj (e.keep _ _ h (by rw [n]; rfl)) (e.none h n) c k (RepAll.evS e r)
  | _, _, .exc h h' n n' c k r => .exc (e.keep _ _ h (by rw [n]; rfl)) (e.keep _ _ h' (by rw [n']; rfl)) (e.none h n) (e.none h' n') c k (RepAll.evS e r)
  | _, _, .ref h => .ref (e.cells _ _ h)
  | _, _, .scr h r => .scr (h.imp (fun q => ⟨(e.rd q.1 q.2).1, (e.rd q.1 q.2).2⟩) id) (RepAll.evS e r)
theorem RepAll.evS (e : EvS T H T' H') : ∀ {vs : List V} {ds : List D}, RepAll M T H vs ds → RepAll M T' H' vs ds
  | _, _, .nil => .nil
  | _, _, .cons r t => .cons (Rep.evS e r) (RepAll.evS e t)
end
theorem EvS.trans (e : EvS T H T' H') (f : EvS T' H' T'' H'') : EvS T H T'' H'' :=
  ⟨fun a o h n => f.keep a o (e.keep a o h n) (by
      cases q : T a with
      | none => rw [e.none h q]; rfl
      | some t =>
        rw [q] at n
        cases t with
        | out => rw [e.outs a q]; rfl
        | slot i => cases n
        | cell i => cases n
        | fld i j => cases n),
   fun a xs h => f.tups a xs (e.tups a xs h), fun a o u h => f.frzs a o u (e.frzs a o u h), fun a t h n => (by
    cases q : T' a with
    | none =>
      have h1 := f.new a t h q
      cases r : H a with
      | none => rfl
      | some o => obtain ⟨o', w⟩ := e.there a o r; rw [h1] at w; cases w
    | some t' => exact e.new a t' q n), fun a n h => f.cells a n (e.cells a n h), fun a h => f.outs a (e.outs a h), fun a o h => let ⟨o1, h1⟩ := e.there a o h; f.there a o1 h1⟩
/-- without slots at the entry -/
theorem EvS.ev (e : EvS T H T' H') (hs : noSlot T) : Ev T H T' H' :=
  ⟨fun a o h n => e.keep a o h (by
      cases q : T a with
      | none => rfl
      | some t =>
        rw [q] at n
        cases t with
        | out => rfl
        | slot i => exact absurd q (hs a i)
        | cell i => cases n
        | fld i j => cases n), e.tups, e.frzs, e.new, e.cells, e.outs, fun a i h => absurd h (hs a i), e.there⟩
end
section
variable (M : Nm)
def PostS (T : Tg) (H : Hp) (D : Ends) : RS → Prop
  | .next env' S' => ∀ σ' T' H', EvS T H T' H' → Rel M T' σ' H' env' S' → D.nx σ' H'
  | .brk env' S' => ∀ σ' T' H', EvS T H T' H' → Rel M T' σ' H' env' S' → D.bk σ' H'
  | .cont env' S' => ∀ σ' T' H', EvS T H T' H' → Rel M T' σ' H' env' S' → D.ct σ' H'
  | .ret d env' S' => ∀ v σ' T' H', EvS T H T' H' → Rel M T' σ' H' env' S' → Rep M T' H' v d → D.rt v H'
  | .bad => False
/-- a statement's reading, by what it does -/
def RSt (f : List Slot → Store → RS) : TS := fun D σ H => ∃ T env S, Rel M T σ H env S ∧ PostS M T H D (f env S)
end
section
variable {X : Cx} {M : Nm} {B : Tb} {φ : Phi} {a b c o : Expr} {sa sb sc : SE} {pos apos : Pos} {rest : List Stmt} {T T1 T2 T3 T' : Tg} {σ σ' : L2.St} {H H1 H2 H' : Hp} {env env' : List Slot} {S S1 S2 S3 : Store} {x y z d : D} {u v : V} {es : List Expr} {ss : List SE} {ds : List D} {vs : List V} {i : Nat} {st : Stmt} {s : SS} {sr : List SS}
theorem PostS.mono {D D' : Ends} {r : RS} (h : PostS M T H D r) (ev : EvS T1 H1 T H) (hn : ∀ env' S' σ' T' H', r = .next env' S' → EvS T1 H1 T' H' → D.nx σ' H' → D'.nx σ' H') : True := trivial
/-- a name is set to something frozen -/
theorem Rel.set (r : Rel M T σ H env S) (rv : Rep M T H v d) : Rel M T (σ.set i (some v)) H (env.set i (.frz d)) S := by
  refine ⟨by rw [List.length_set, List.length_set]; exact r.len, fun j => ?_, r.tg, r.st⟩
  by_cases q : i = j
  · subst q
    by_cases h : i < env.length
    · rw [List.getElem?_set_self h, List.getElem?_set_self (by rw [r.len]; exact h)]
      exact ⟨v, rfl, rv⟩
    · rw [List.getElem?_eq_none (l := env.set i (.frz d)) (by simp; omega)]
      trivial
  · rw [List.getElem?_set_ne q, List.getElem?_set_ne q]
    exact r.slot j
theorem les_tag {x : Addr} {t : Tag} (h : ∃ t0, T x = some t0 ∧ ∀ n, t0 ≠ .cell n) : Les T (tag T x t) := by
  obtain ⟨t0, h1, h2⟩ := h
  refine ⟨fun b e => ?_, fun b n e => ?_⟩
  · have q : b ≠ x := fun z => by rw [z, h1] at e; cases e
    rw [tag_ne q]; exact e
  · have q : b ≠ x := fun z => by rw [z, h1] at e; cases e; exact h2 n rfl
    rw [tag_ne q]; exact e
/-- a temporary becomes a slot's own -/
theorem Rel.setOwn (r : Rel M T σ H env S) {x : Addr} (tx : T x = some .out) (nd : Node M T H x d) : Rel M (tag T x (.slot i)) (σ.set i (some (.ref x))) H (env.set i (.own d)) S := by
  have le : Les T (tag T x (.slot i)) := les_tag ⟨.out, tx, by intro n z; cases z⟩
  have ne : ∀ b t, T b = some t → t ≠ .out → b ≠ x := fun b t z q w => by rw [w, tx] at z; cases z; exact q rfl
  refine ⟨by rw [List.length_set, List.length_set]; exact r.len, fun j => ?_, fun b t z => ?_, fun n c h => ?_, fun b b' n h h' => ?_, fun b n h => ?_⟩
  · by_cases q : i = j
    · subst q
      by_cases h : i < env.length
      · rw [List.getElem?_set_self h, List.getElem?_set_self (by rw [r.len]; exact h)]
        exact ⟨x, rfl, tag_same, nd.les le⟩
      · rw [List.getElem?_eq_none (l := env.set i (.own d)) (by simp; omega)]
        trivial
    · rw [List.getElem?_set_ne q, List.getElem?_set_ne q]
      have s := r.slot j
      cases w : env[j]? with
      | none => trivial
      | some sl =>
        rw [w] at s
        cases sl with
        | emp => trivial
        | frz d => obtain ⟨v, h, rp⟩ := s; exact ⟨v, h, rp.les le⟩
        | own d => obtain ⟨y, h, t, rp⟩ := s; exact ⟨y, h, by rw [tag_ne (ne y _ t (by intro z; cases z))]; exact t, rp.les le⟩
        | lck d => obtain ⟨y, h, t, rp⟩ := s; exact ⟨y, h, by rw [tag_ne (ne y _ t (by intro z; cases z))]; exact t, rp.les le⟩
  · by_cases q : b = x
    · rw [q]; exact r.tg x _ tx
    · rw [tag_ne q] at z; exact r.tg b t z
  · obtain ⟨y, t, ok⟩ := r.st.cell n c h
    exact ⟨y, by rw [tag_ne (ne y _ t (by intro z; cases z))]; exact t, ok.les le⟩
  · have key : ∀ y, tag T x (.slot i) y = some (.cell n) → T y = some (.cell n) := fun y z => by
      by_cases q : y = x
      · rw [q, tag_same] at z; cases z
      · rw [tag_ne q] at z; exact z
    exact r.st.uniq b b' n (key b h) (key b' h')
  · by_cases q : b = x
    · rw [q, tag_same] at h; cases h
    · rw [tag_ne q] at h; exact r.st.range b n h
theorem evS_tag {x : Addr} {t : Tag} (e : EvS T H T1 H1) (hn : H x = none) (tg : ∀ a t, T a = some t → ∃ o, H a = some o) : EvS T H (tag T1 x t) H1 := by
  have nt : T x = none := by
    cases q : T x with
    | none => rfl
    | some t => obtain ⟨o, z⟩ := tg x t q; rw [hn] at z; cases z
  have ne : ∀ b t', T b = some t' → b ≠ x := fun b t' z q => by rw [q, nt] at z; cases z
  exact ⟨e.keep, e.tups, e.frzs, fun b t' z n => (by
      by_cases q : b = x
      · rw [q]; exact hn
      · rw [tag_ne q] at z; exact e.new b t' z n), fun b n z => (by rw [tag_ne (ne b _ z)]; exact e.cells b n z), fun b z => (by rw [tag_ne (ne b _ z)]; exact e.outs b z), e.there⟩
theorem bndS_ne {x : Rs D} {f : D → Store → RS} (h : bndS x f ≠ .bad) : ∃ d S, x = some (d, S) ∧ bndS x f = f d S := by
  cases x with
  | none => exact absurd rfl h
  | some p => exact ⟨p.1, p.2, rfl, rfl⟩
theorem bndL_ne {x : Rs (List D)} {f : List D → Store → RS} (h : bndL x f ≠ .bad) : ∃ d S, x = some (d, S) ∧ bndL x f = f d S := by
  cases x with
  | none => exact absurd rfl h
  | some p => exact ⟨p.1, p.2, rfl, rfl⟩
theorem PostS.ne {D : Ends} {r : RS} (h : PostS M T H D r) : r ≠ .bad := by
  intro e
  rw [e] at h
  exact h
theorem ps_bad : PS X st (RSt M (evS B φ .bad)) := ⟨fun p s σ H D I ⟨T, env, S, r, h⟩ => by simp only [evS] at h; exact h.elim⟩
theorem ps_passR : PS X (.Pass pos) (RSt M (evS B φ .pass)) := PS.imp ps_pass fun D σ H ⟨T, env, S, r, h⟩ => by simp only [evS] at h; exact h σ T H .refl r
theorem ps_docR {x : Str} {j : Nat} {pos' : Pos} : PS X (.Expr (.Constant (.str x) j pos) pos') (RSt M (evS B φ .pass)) := PS.imp ps_doc fun D σ H ⟨T, env, S, r, h⟩ => by simp only [evS] at h; exact h σ T H .refl r
theorem ps_brkR : PS X (.Break pos) (RSt M (evS B φ .brk)) := PS.imp ps_break fun D σ H ⟨T, env, S, r, h⟩ => by simp only [evS] at h; exact h σ T H .refl r
theorem ps_contR : PS X (.Continue pos) (RSt M (evS B φ .cont)) := PS.imp ps_continue fun D σ H ⟨T, env, S, r, h⟩ => by simp only [evS] at h; exact h σ T H .refl r
theorem ps_retR (he : PE X a (RE M B φ sa)) : PS X (.Return (some a) pos) (RSt M (evS B φ (.ret sa))) := PS.imp (ps_ret he) fun D σ H ⟨T, env, S, r, h⟩ => by
  simp only [evS] at h
  obtain ⟨d, S1, e, e2⟩ := bndS_ne h.ne
  rw [e2] at h
  exact ⟨T, env, S, d, S1, r, e, fun v T' H' ev rl rp => h v σ T' H' ev.s rl rp⟩
theorem ps_retNR : PS X (.Return none pos) (RSt M (evS B φ (.ret .cnon))) := PS.imp ps_retN fun D σ H ⟨T, env, S, r, h⟩ => by
  simp only [evS, evE] at h
  exact h .non σ T H .refl r .non
theorem ps_dropR (he : PE X a (RE M B φ sa)) (hs : swapsWith a none pos.line X.env = pure false) : PS X (.Expr a pos) (RSt M (evS B φ (.drop sa))) := PS.imp (ps_expr he hs) fun D σ H ⟨T, env, S, r, h⟩ => by
  simp only [evS] at h
  obtain ⟨d, S1, e, e2⟩ := bndS_ne h.ne
  rw [e2] at h
  exact ⟨T, env, S, d, S1, r, e, fun v T' H' ev rl rp => h σ T' H' ev.s rl⟩
theorem ps_asgR {nm : Str} {p' : Pos} (hN : X.N.Nodup) (hi : X.N[i]? = some nm) (hx : Loc X.env.scope nm) (he : PE X a (RE M B φ sa)) (hs : swapsWith a (some (.Name nm p')) pos.line X.env = pure false) (hf : X.fn nm = true ∨ X.env.scope.names.lookup nm = some .local) :
    PS X (.Assign [.Name nm p'] a pos) (RSt M (evS B φ (.asg i sa))) := PS.imp (ps_set hN hi hx he hs hf) fun D σ H ⟨T, env, S, r, h⟩ => by
  simp only [evS] at h
  obtain ⟨d, S1, e, e2⟩ := bndS_ne h.ne
  rw [e2] at h
  exact ⟨T, env, S, d, S1, r, e, fun v T' H' ev rl rp => h _ T' H' ev.s (rl.set rp)⟩
theorem ps_ownR {nm : Str} {p' : Pos} (hN : X.N.Nodup) (hi : X.N[i]? = some nm) (hx : Loc X.env.scope nm) (he : PE X a (RX M B φ sa)) (hs : swapsWith a (some (.Name nm p')) pos.line X.env = pure false) (hf : X.fn nm = true ∨ X.env.scope.names.lookup nm = some .local) :
    PS X (.Assign [.Name nm p'] a pos) (RSt M (evS B φ (.own i sa))) := PS.imp (ps_set hN hi hx he hs hf) fun D σ H ⟨T, env, S, r, h⟩ => by
  simp only [evS] at h
  obtain ⟨d, S1, e, e2⟩ := bndS_ne h.ne
  rw [e2] at h
  split at h
  · rename_i hn
    refine ⟨T, env, S, d, S1, r, e, fun v T' H' ev rl nw => ?_⟩
    unfold New at nw
    rw [hn] at nw
    obtain ⟨x, rfl, hx', tx, nd⟩ := nw
    exact h _ _ H' (evS_tag ev.s hx' r.tg) (rl.setOwn tx nd)
  · exact h.elim
end
end RI
end

section
namespace RI
open PySem PySem.Spec L2
mutual
/-- the slots that a target sets -/
def tgv : RI.TG → List Nat
  | .nm i => [i]
  | .tp ts => tgvs ts
def tgvs : List RI.TG → List Nat
  | [] => []
  | t :: ts => tgv t ++ tgvs ts
end
/-- the same but at these slots -/
structure Sm (vs : List Nat) (σ σ' : L2.St) : Prop where
  len : σ'.length = σ.length
  at_ : ∀ j, j ∉ vs → σ'[j]? = σ[j]?
theorem Sm.trans {vs ws : List Nat} {σ σ' σ'' : L2.St} (a : Sm vs σ σ') (b : Sm ws σ' σ'') : Sm (vs ++ ws) σ σ'' := ⟨b.len.trans a.len, fun j h => (b.at_ j fun q => h (List.mem_append_right _ q)).trans (a.at_ j fun q => h (List.mem_append_left _ q))⟩
section
variable (M : Nm)
def RG (t : RI.TG) : L2.TG := fun v σ H Q => ∃ T env S d env', Rel M T σ H env S ∧ Rep M T H v d ∧ bndT t d env = some env' ∧ ∀ σ', Sm (tgv t) σ σ' → Rel M T σ' H env' S → Q σ' H
def RGs (ts : List RI.TG) : L2.TGs := fun vs σ H Q => ∃ T env S ds env', Rel M T σ H env S ∧ RepAll M T H vs ds ∧ bndTs ts ds env = some env' ∧ ∀ σ', Sm (tgvs ts) σ σ' → Rel M T σ' H env' S → Q σ' H
end
section
variable {X : Cx} {M : Nm} {B : Tb} {φ : Phi} {a b c o e : Expr} {sa sb sc : SE} {pos apos : Pos} {rest : List Stmt} {T T1 T2 T3 T' : Tg} {σ σ' : L2.St} {H H1 H2 H' : Hp} {env env' : List Slot} {S S1 S2 S3 : Store} {x y z d : D} {u v : V} {es : List Expr} {ss : List SE} {ds items : List D} {vs : List V} {i : Nat} {st : Stmt} {s : SS} {sr : List SS} {t : RI.TG} {ts : List RI.TG}
theorem PG.imp {t t' : L2.TG} (h : PG X e t) (i : ∀ v σ H Q, t' v σ H Q → t v σ H Q) : PG X e t' := ⟨fun p s σ H v u Q I r q => h.run p s σ H v u Q I r (i v σ H Q q)⟩
theorem PG.or {t t' : L2.TG} (h : PG X e t) (h' : PG X e t') : PG X e (fun v σ H Q => t v σ H Q ∨ t' v σ H Q) := ⟨fun p s σ H v u Q I r q => q.elim (h.run p s σ H v u Q I r) (h'.run p s σ H v u Q I r)⟩
theorem PGs.imp {t t' : L2.TGs} (h : PGs X es t) (i : ∀ v σ H Q, t' v σ H Q → t v σ H Q) : PGs X es t' := ⟨fun p s σ H v u Q I r q => h.run p s σ H v u Q I r (i v σ H Q q)⟩
theorem pg_nm {nm : Str} (hN : X.N.Nodup) (hi : X.N[i]? = some nm) (hx : Loc X.env.scope nm) (hf : X.fn nm = true ∨ X.env.scope.names.lookup nm = some .local) : PG X (.Name nm pos) (RG M (.nm i)) :=
  PG.imp (pg_name hN hi hx hf) fun v σ H Q ⟨T, env, S, d, env', r, rv, hb, k⟩ => by
    simp only [bndT] at hb
    cases hb
    exact k _ ⟨List.length_set, fun j hj => List.getElem?_set_ne (by simp only [tgv, List.mem_singleton] at hj; omega)⟩ (r.set rv)
theorem pgs_nilR : PGs X [] (RGs M []) := PGs.imp pgs_nil fun vs σ H Q ⟨T, env, S, ds, env', r, rv, hb, k⟩ => by
  cases rv with
  | nil => simp only [bndTs] at hb; cases hb; exact ⟨rfl, k _ ⟨rfl, fun _ _ => rfl⟩ r⟩
  | cons _ _ => simp only [bndTs] at hb; cases hb
theorem pgs_consR (h1 : PG X a (RG M t)) (h2 : PGs X es (RGs M ts)) (hs : List.map (fun x => x.2) (assignEach (a :: es) X.env) = assign a X.env :: List.map (fun x => x.2) (assignEach es X.env)) : PGs X (a :: es) (RGs M (t :: ts)) := PGs.imp (pgs_cons h1 h2 hs) fun vs σ H Q ⟨T, env, S, ds, env', r, rv, hb, k⟩ => by
  cases rv with
  | nil => simp only [bndTs] at hb; cases hb
  | cons r1 r2 =>
    simp only [bndTs] at hb
    split at hb
    · rename_i env1 h
      exact ⟨_, _, rfl, T, env, S, _, env1, r, r1, h, fun σ1 sm1 rl1 => ⟨T, env1, S, _, env', rl1, r2, hb, fun σ2 sm2 => k σ2 (sm1.trans sm2)⟩⟩
    · cases hb
theorem bndTs_len : ∀ {ts : List RI.TG} {ds : List D} {env env' : List Slot}, bndTs ts ds env = some env' → ds.length = ts.length
  | [], [], _, _, _ => rfl
  | [], _ :: _, _, _, h => by simp only [bndTs] at h; cases h
  | _ :: _, [], _, _, h => by simp only [bndTs] at h; cases h
  | t :: ts, d :: ds, env, env', h => by
    simp only [bndTs] at h
    split at h
    · rw [List.length_cons, List.length_cons, bndTs_len h]
    · cases h
theorem pg_tpR {kk : Nat} (hK : M.K = X.K) (hc : X.calm = true) (h : PGs X es (RGs M ts)) (hn : (assignEach es X.env).length = ts.length) (hst : (assignEach es X.env).findIdx? (·.1) = none) : PG X (.Tuple es kk pos) (RG M (.tp ts)) :=
  PG.imp (PG.or (pg_tup hc h hn hst) (pg_unl hc h hn hst)) fun v σ H Q ⟨T, env, S, d, env', r, rv, hb, k⟩ => by
    cases rv with
    | tup h1 r1 =>
      simp only [bndT] at hb
      exact .inl ⟨_, _, rfl, by rw [← hK]; exact h1, by rw [r1.length]; exact bndTs_len hb, T, env, S, _, env', r, r1, hb, k⟩
    | lst h1 n r1 =>
      simp only [bndT] at hb
      exact .inr ⟨_, _, rfl, .inl (.inl h1), by rw [r1.length]; exact bndTs_len hb, T, env, S, _, env', r, r1, hb, k⟩
    | _ => simp only [bndT] at hb; cases hb
theorem optE_ne {x : Option (List Slot)} {D : Ends} (h : PostS M T H D (optE x S)) : ∃ env, x = some env ∧ PostS M T H D (.next env S) := by
  cases x with
  | none => exact h.elim
  | some env => exact ⟨env, rfl, h⟩
theorem ps_unpR {kk : Nat} {tp : Pos} (he : PE X a (RE M B φ sa)) (hg : PG X (.Tuple es kk tp) (RG M (.tp ts))) (hs : swapsWithSole [.Tuple es kk tp] a pos.line X.env = pure false) (hw : swappedStores [.Tuple es kk tp] a X.env = pure none) :
    PS X (.Assign [.Tuple es kk tp] a pos) (RSt M (evS B φ (.unp ts sa))) := PS.imp (ps_asg he hg hs hw) fun D σ H ⟨T, env, S, r, h⟩ => by
  simp only [evS] at h
  obtain ⟨d, S1, e, e2⟩ := bndS_ne h.ne
  rw [e2] at h
  obtain ⟨env', hb, h⟩ := optE_ne h
  exact ⟨T, env, S, d, S1, r, e, fun v T' H' ev rl rp => ⟨T', env, S1, d, env', rl, rp, hb, fun σ' _ rl' => h σ' T' H' ev.s rl'⟩⟩
theorem PostS.ev {D : Ends} (ev : EvS T H T1 H1) : ∀ {r : RS}, PostS M T H D r → PostS M T1 H1 D r
  | .next _ _, h => fun σ' T' H' e rl => h σ' T' H' (ev.trans e) rl
  | .brk _ _, h => fun σ' T' H' e rl => h σ' T' H' (ev.trans e) rl
  | .cont _ _, h => fun σ' T' H' e rl => h σ' T' H' (ev.trans e) rl
  | .ret _ _ _, h => fun v σ' T' H' e rl rp => h v σ' T' H' (ev.trans e) rl rp
  | .bad, h => h
theorem pss_nilR : PSs X [] (RSt M (evSs B φ [])) := PSs.imp pss_nil fun D σ H ⟨T, env, S, r, h⟩ => by simp only [evSs] at h; exact h σ T H .refl r
theorem pss_consR (h1 : PS X st (RSt M (evS B φ s))) (h2 : PSs X rest (RSt M (evSs B φ sr))) : PSs X (st :: rest) (RSt M (evSs B φ (s :: sr))) := PSs.imp (pss_cons h1 h2) fun D σ H ⟨T, env, S, r, h⟩ => by
  simp only [evSs] at h
  refine ⟨T, env, S, r, ?_⟩
  cases q : evS B φ s env S with
  | next env1 S1 =>
    rw [q] at h
    exact fun σ' T' H' ev rl => ⟨T', env1, S1, rl, h.ev ev⟩
  | brk env1 S1 => rw [q] at h; exact h
  | cont env1 S1 => rw [q] at h; exact h
  | ret d env1 S1 => rw [q] at h; exact h
  | bad => rw [q] at h; exact h
/-- a ghost statement ahead -/
theorem pss_ghost {f : List Slot → Store → RS} (h2 : PSs X rest (RSt M f)) (hg : ∀ T σ H env S, Rel M T σ H env S → ∃ T' env', s = s ∧ evS B φ s env S = .next env' S ∧ EvS T H T' H ∧ Rel M T' σ H env' S) : PSs X rest (RSt M (fun env S => thnS (evS B φ s env S) f)) := PSs.imp h2 fun D σ H ⟨T, env, S, r, h⟩ => by
  obtain ⟨T', env', _, e1, ev, rl⟩ := hg T σ H env S r
  dsimp only at h
  rw [e1] at h
  exact ⟨T', env', S, rl, PostS.ev ev h⟩
theorem bndC_ne {x : Rs D} {f : Bool → Store → RS} (h : bndC x f ≠ .bad) : ∃ k S, x = some (.bl k, S) ∧ bndC x f = f k S := by
  unfold bndC at h ⊢
  split at h
  · rename_i k S
    exact ⟨k, S, rfl, rfl⟩
  · exact absurd rfl h
theorem ps_ifR {p q : List Stmt} {sp sq : List SS} (hc : PT X c (RT M B φ sc)) (ha : PSs X p (RSt M (evSs B φ sp))) (hb : PSs X q (RSt M (evSs B φ sq))) : PS X (.If c p q pos) (RSt M (evS B φ (.if_ sc sp sq))) := PS.imp (ps_if hc ha hb) fun D σ H ⟨T, env, S, r, h⟩ => by
  simp only [evS] at h
  obtain ⟨k, S1, e, e2⟩ := bndC_ne h.ne
  rw [e2] at h
  refine ⟨T, env, S, k, S1, r, e, fun T' H' ev rl => ?_⟩
  cases k with
  | true => rw [if_pos rfl] at h ⊢; exact ⟨T', env, S1, rl, h.ev ev.s⟩
  | false => rw [if_neg Bool.false_ne_true] at h ⊢; exact ⟨T', env, S1, rl, h.ev ev.s⟩
theorem ps_whileR {p : List Stmt} {sp : List SS} (hp : PassesOwn (model X.prog X.w) X.A X.env X.xe) (hc : PT X c (RT M B φ sc)) (hb : PSs X p (RSt M (evSs B φ sp))) : PS X (.While c p [] pos) (RSt M (evS B φ (.while_ sc sp))) := PS.imp (ps_while hp hc hb) fun D σ H ⟨T, env, S, r, h⟩ => by
  simp only [evS] at h
  obtain ⟨n, hn⟩ := whileR_of h.ne
  generalize hr : whileR (fun env1 S1 => evE B φ sc env1 S1) (fun env1 S1 => evSs B φ sp env1 S1) env S = R at h hn
  refine ⟨fun m σ' H' => ∃ T' env' S', Rel M T' σ' H' env' S' ∧ EvS T H T' H' ∧ whileN (fun env1 S1 => evE B φ sc env1 S1) (fun env1 S1 => evSs B φ sp env1 S1) m env' S' = some R, ⟨n, T, env, S, r, .refl, hn⟩, ?_⟩
  rintro m σ1 H1 ⟨T1, env1, S1, r1, ev1, e1⟩
  cases m with
  | zero => cases e1
  | succ m =>
    unfold whileN at e1
    split at e1
    · rename_i S2 hc2
      refine ⟨T1, env1, S1, true, S2, r1, hc2, fun T2 H2 ev2 r2 => ?_⟩
      dsimp only
      rw [if_pos rfl]
      refine ⟨fun σ' H' => ∃ T' env' S', Rel M T' σ' H' env' S' ∧ EvS T H T' H' ∧ whileN (fun env1 S1 => evE B φ sc env1 S1) (fun env1 S1 => evSs B φ sp env1 S1) m env' S' = some R, fun σ' H' h => ⟨m, Nat.lt_succ_self m, h⟩, T2, env1, S2, r2, ?_⟩
      cases q : evSs B φ sp env1 S2 with
      | next env3 S3 => rw [q] at e1; exact fun σ3 T3 H3 ev3 r3 => ⟨T3, env3, S3, r3, (ev1.trans ev2.s).trans ev3, e1⟩
      | cont env3 S3 => rw [q] at e1; exact fun σ3 T3 H3 ev3 r3 => ⟨T3, env3, S3, r3, (ev1.trans ev2.s).trans ev3, e1⟩
      | brk env3 S3 => rw [q] at e1; cases e1; exact PostS.ev (ev1.trans ev2.s) h
      | ret d env3 S3 => rw [q] at e1; cases e1; exact PostS.ev (ev1.trans ev2.s) h
      | bad => rw [q] at e1; cases e1; exact h.elim
    · rename_i S2 hc2
      cases e1
      refine ⟨T1, env1, S1, false, S2, r1, hc2, fun T2 H2 ev2 r2 => ?_⟩
      dsimp only
      rw [if_neg Bool.false_ne_true]
      exact PostS.ev (ev1.trans ev2.s) h σ1 T2 H2 .refl r2
    · cases e1
      exact h.elim
end
end RI
end

section
namespace RI
open PySem PySem.Spec L2
/-- an iterator that yields these -/
structure Src (M : Nm) (J : It) (items : List D) (G : Tg → Hp → Prop) : Prop where
  stay : ∀ T H T' H', EvS T H T' H' → G T H → G T' H'
  go : ∀ i T H, G T H → i < items.length → J.go i H
  stop : ∀ i T H, G T H → items.length ≤ i → J.stop i H
  yld : ∀ i T σ H env S x H', G T H → Rel M T σ H env S → J.yld i H x H' → i < items.length → ∃ d T', items[i]? = some d ∧ Ev T H T' H' ∧ Rel M T' σ H' env S ∧ Rep M T' H' x d
def RIt (M : Nm) (B : Tb) (φ : Phi) (k : IK) (its : List SE) : TI := fun σ H R => ∃ T env S ds S1 items, Rel M T σ H env S ∧ evEs B φ its env S = some (ds, S1) ∧ itD k ds = some items ∧
  ∀ J T' H' G, Ev T H T' H' → Rel M T' σ H' env S1 → Src M J items G → G T' H' → R J H'
section
variable {X : Cx} {M : Nm} {B : Tb} {φ : Phi} {a b c o e : Expr} {sa sb sc : SE} {pos apos : Pos} {rest : List Stmt} {T T0 T1 T2 T3 T' : Tg} {σ σ' : L2.St} {H H0 H1 H2 H' : Hp} {env env' : List Slot} {S S1 S2 S3 : Store} {x y z d : D} {u v : V} {es : List Expr} {ss : List SE} {ds items : List D} {vs : List V} {i : Nat} {st : Stmt} {s : SS} {sr sp : List SS} {t : RI.TG} {ts : List RI.TG} {tg iter : Expr} {body : List Stmt}
theorem PI.imp {t t' : TI} (h : PI X tg e t) (i : ∀ σ H R, t' σ H R → t σ H R) : PI X tg e t' := ⟨fun p s σ H R I q => h.run p s σ H R I (i σ H R q)⟩
theorem PI.or {t t' : TI} (h : PI X tg e t) (h' : PI X tg e t') : PI X tg e (fun σ H R => t σ H R ∨ t' σ H R) := ⟨fun p s σ H R I q => q.elim (h.run p s σ H R I) (h'.run p s σ H R I)⟩
theorem src_list {p : Addr} {xs : List V} (K : PySem.W.Frag) : Src M (Itl K p) items (fun T H => H p = some (.lst xs) ∧ T p = none ∧ RepAll M T H xs items) where
  stay := fun T H T' H' ev ⟨h, n, r⟩ => ⟨ev.keep p _ h (by rw [n]; rfl), ev.none h n, r.evS ev⟩
  go := fun i T H ⟨h, n, r⟩ hi => by
    obtain ⟨v, hv, _⟩ := r.get (List.getElem?_eq_getElem hi)
    exact ⟨xs, v, .inl (.inl h), hv⟩
  stop := fun i T H ⟨h, n, r⟩ hi => ⟨xs, .inl (.inl h), by rw [r.length]; exact hi⟩
  yld := fun i T σ H env S x H' ⟨h, n, r⟩ rl y hi => by
    obtain ⟨e1, e2⟩ := y
    subst e1
    obtain ⟨v, hv, rv⟩ := r.get (List.getElem?_eq_getElem hi)
    have := e2 xs (.inl (.inl h))
    rw [hv] at this
    cases this
    exact ⟨_, T, List.getElem?_eq_getElem hi, .refl, rl, rv⟩
theorem src_tup {p : Addr} {xs : List V} {K : PySem.W.Frag} : Src M (Itt K p) items (fun T H => SqT K H p xs ∧ RepAll M T H xs items) where
  stay := fun T H T' H' ev ⟨h, r⟩ => ⟨ev.sqt h, r.evS ev⟩
  go := fun i T H ⟨h, r⟩ hi => by
    obtain ⟨v, hv, _⟩ := r.get (List.getElem?_eq_getElem hi)
    exact ⟨xs, v, h, hv⟩
  stop := fun i T H ⟨h, r⟩ hi => ⟨xs, h, by rw [r.length]; exact hi⟩
  yld := fun i T σ H env S x H' ⟨h, r⟩ rl y hi => by
    obtain ⟨e1, e2⟩ := y
    subst e1
    obtain ⟨v, hv, rv⟩ := r.get (List.getElem?_eq_getElem hi)
    have := e2 xs h
    rw [hv] at this
    cases this
    exact ⟨_, T, List.getElem?_eq_getElem hi, .refl, rl, rv⟩
theorem src_str {z : Str} : Src M (Its z) (z.cps.toList.map fun c => D.str ⟨#[c]⟩) (fun _ _ => True) where
  stay := fun _ _ _ _ _ _ => trivial
  go := fun i T H _ hi => by
    show i < z.cps.size
    simpa using hi
  stop := fun i T H _ hi => by
    show z.cps.size ≤ i
    simpa using hi
  yld := fun i T σ H env S x H' _ rl y hi => by
    obtain ⟨e1, ch, e2, e3⟩ := y
    subst e1 e3
    refine ⟨.str ⟨#[ch]⟩, T, ?_, .refl, rl, .str _⟩
    rw [List.getElem?_map, Array.getElem?_toList, e2]
    rfl
theorem rngD_get : ∀ {n : Nat} {k : Int} {i : Nat}, i < n → (rngD k n)[i]? = some (.int (k + i))
  | n + 1, k, 0, _ => by simp [rngD]
  | n + 1, k, i + 1, h => by
    unfold rngD
    rw [List.getElem?_cons_succ, rngD_get (by omega)]
    congr 2
    push_cast
    omega
theorem rngD_len : ∀ {n : Nat} {k : Int}, (rngD k n).length = n
  | 0, _ => rfl
  | n + 1, k => by unfold rngD; rw [List.length_cons, rngD_len]
theorem src_rng {n : Nat} {k : Int} : Src M (Itr k n) (rngD k n) (fun _ _ => True) where
  stay := fun _ _ _ _ _ _ => trivial
  go := fun i T H _ hi => by rw [rngD_len] at hi; exact hi
  stop := fun i T H _ hi => by rw [rngD_len] at hi; exact hi
  yld := fun i T σ H env S x H' _ rl y hi => by
    obtain ⟨e1, e2⟩ := y
    subst e1 e2
    rw [rngD_len] at hi
    exact ⟨_, T, rngD_get hi, .refl, rl, .int _⟩
theorem enumD_get : ∀ {xs : List D} {k : Int} {i : Nat} {d : D}, xs[i]? = some d → (enumD k xs)[i]? = some (.tup [.int (k + i), d])
  | x :: r, k, 0, d, h => by simp at h; subst h; simp [enumD]
  | x :: r, k, i + 1, d, h => by
    unfold enumD
    rw [List.getElem?_cons_succ, enumD_get (by simpa using h)]
    congr 4
    push_cast
    omega
theorem enumD_len : ∀ {xs : List D} {k : Int}, (enumD k xs).length = xs.length
  | [], _ => rfl
  | x :: r, k => by unfold enumD; rw [List.length_cons, List.length_cons, enumD_len]
theorem src_enum {p : Addr} {xs : List V} {ys : List D} (K : PySem.W.Frag) : Src M (Ite K p) (enumD 0 ys) (fun T H => H p = some (.lst xs) ∧ T p = none ∧ RepAll M T H xs ys) where
  stay := fun T H T' H' ev ⟨h, n, r⟩ => ⟨ev.keep p _ h (by rw [n]; rfl), ev.none h n, r.evS ev⟩
  go := fun i T H ⟨h, n, r⟩ hi => by
    rw [enumD_len] at hi
    obtain ⟨v, hv, _⟩ := r.get (List.getElem?_eq_getElem hi)
    exact ⟨xs, v, .inl (.inl h), hv⟩
  stop := fun i T H ⟨h, n, r⟩ hi => by
    rw [enumD_len] at hi
    exact ⟨xs, .inl (.inl h), by rw [r.length]; exact hi⟩
  yld := fun i T σ H env S x H' ⟨h, n, r⟩ rl y hi => by
    rw [enumD_len] at hi
    obtain ⟨q, w, e1, e2, e3, e4⟩ := y
    subst e1 e3
    obtain ⟨v, hv, rv⟩ := r.get (List.getElem?_eq_getElem hi)
    have := e4 xs (.inl (.inl h))
    rw [hv] at this
    cases this
    obtain ⟨ev, r1, rp⟩ := new_tup rl e2 (.cons (.int (i : Nat)) (.cons rv .nil))
    refine ⟨_, T, enumD_get (List.getElem?_eq_getElem hi), ev, r1, ?_⟩
    rw [show ((0 : Int) + (i : Nat)) = (i : Nat) by omega]
    exact rp
theorem zipD_get : ∀ {xs ys : List D} {i : Nat} {d e : D}, xs[i]? = some d → ys[i]? = some e → (zipD xs ys)[i]? = some (.tup [d, e])
  | x :: r, y :: q, 0, d, e, h, h' => by simp at h h'; subst h h'; simp [zipD]
  | x :: r, y :: q, i + 1, d, e, h, h' => by
    unfold zipD
    rw [List.getElem?_cons_succ]
    exact zipD_get (by simpa using h) (by simpa using h')
  | [], _, i, d, e, h, _ => by simp at h
  | _ :: _, [], i, d, e, _, h => by simp at h
theorem zipD_len : ∀ {xs ys : List D}, (zipD xs ys).length = min xs.length ys.length
  | [], _ => by simp [zipD]
  | _ :: _, [] => by simp [zipD]
  | x :: r, y :: q => by unfold zipD; rw [List.length_cons, List.length_cons, List.length_cons, zipD_len]; omega
theorem src_zip {p q : Addr} {xs ys : List V} {ds es : List D} (K : PySem.W.Frag) : Src M (Itz K p q) (zipD ds es) (fun T H => (H p = some (.lst xs) ∧ T p = none ∧ RepAll M T H xs ds) ∧ H q = some (.lst ys) ∧ T q = none ∧ RepAll M T H ys es) where
  stay := fun T H T' H' ev ⟨⟨h, n, r⟩, h', n', r'⟩ => ⟨⟨ev.keep p _ h (by rw [n]; rfl), ev.none h n, r.evS ev⟩, ev.keep q _ h' (by rw [n']; rfl), ev.none h' n', r'.evS ev⟩
  go := fun i T H ⟨⟨h, n, r⟩, h', n', r'⟩ hi => by
    rw [zipD_len] at hi
    have h1 : i < ds.length := by omega
    have h2 : i < es.length := by omega
    obtain ⟨v, hv, _⟩ := r.get (List.getElem?_eq_getElem h1)
    obtain ⟨w, hw, _⟩ := r'.get (List.getElem?_eq_getElem h2)
    exact ⟨xs, ys, v, w, .inl (.inl h), .inl (.inl h'), hv, hw⟩
  stop := fun i T H ⟨⟨h, n, r⟩, h', n', r'⟩ hi => by
    rw [zipD_len] at hi
    refine ⟨xs, ys, .inl (.inl h), .inl (.inl h'), ?_⟩
    rw [r.length, r'.length]
    omega
  yld := fun i T σ H env S x H' ⟨⟨h, n, r⟩, h', n', r'⟩ rl y hi => by
    rw [zipD_len] at hi
    have h1 : i < ds.length := by omega
    have h2 : i < es.length := by omega
    obtain ⟨t, w1, w2, e1, e2, e3, e4, e5⟩ := y
    subst e1 e3
    obtain ⟨v, hv, rv⟩ := r.get (List.getElem?_eq_getElem h1)
    obtain ⟨w, hw, rw'⟩ := r'.get (List.getElem?_eq_getElem h2)
    have q1 := e4 xs (.inl (.inl h))
    rw [hv] at q1
    cases q1
    have q2 := e5 ys (.inl (.inl h'))
    rw [hw] at q2
    cases q2
    obtain ⟨ev, r1, rp⟩ := new_tup rl e2 (.cons rv (.cons rw' .nil))
    exact ⟨_, T, zipD_get (List.getElem?_eq_getElem h1) (List.getElem?_eq_getElem h2), ev, r1, rp⟩
end
end RI
end

section
namespace RI
open PySem PySem.Spec L2
section
variable {X : Cx} {M : Nm} {B : Tb} {φ : Phi} {a b c o e e2 : Expr} {sa sb sc : SE} {pos apos p tpos : Pos} {rest : List Stmt} {T T0 T1 T2 T3 T' : Tg} {σ σ' : L2.St} {H H0 H1 H2 H' : Hp} {env env' : List Slot} {S S1 S2 S3 : Store} {x y z d : D} {u v : V} {es elts : List Expr} {ss its : List SE} {ds items : List D} {vs : List V} {i kk : Nat} {st : Stmt} {s : SS} {sr sp : List SS} {t : RI.TG} {ts : List RI.TG} {tg iter : Expr} {body : List Stmt} {k : IK}
theorem evEs_one (h : evEs B φ [sa] env S = some (ds, S1)) : ∃ d, ds = [d] ∧ evE B φ sa env S = some (d, S1) := by
  simp only [evEs] at h
  obtain ⟨d, S2, e, h⟩ := bnd_eq h
  cases h
  exact ⟨d, rfl, e⟩
theorem pi_seqR (hK : M.K = X.K) (he : PE X e (RE M B φ sa)) : PI X tg e (RIt M B φ .seq [sa]) := PI.imp (PI.or (PI.or (pi_list he) (pi_tup he)) (pi_str he)) fun σ H R ⟨T, env, S, ds, S1, items, r, h1, h2, k⟩ => by
  obtain ⟨d, rfl, e1⟩ := evEs_one h1
  cases d with
  | lst xs =>
    cases h2
    refine .inl (.inl ⟨T, env, S, _, S1, r, e1, fun v T' H' ev rl rp => ?_⟩)
    cases rp with
    | lst h n ra => exact ⟨_, rfl, ⟨_, .inl (.inl h)⟩, k _ T' H' _ ev rl (src_list X.K) ⟨h, n, ra⟩⟩
  | tup xs =>
    cases h2
    refine .inl (.inr ⟨T, env, S, _, S1, r, e1, fun v T' H' ev rl rp => ?_⟩)
    cases rp with
    | tup h ra => exact ⟨_, rfl, ⟨_, hK ▸ h⟩, k _ T' H' _ ev rl src_tup ⟨hK ▸ h, ra⟩⟩
  | str z =>
    cases h2
    refine .inr ⟨T, env, S, _, S1, r, e1, fun v T' H' ev rl rp => ?_⟩
    cases rp
    exact ⟨_, rfl, k _ T' H' _ ev rl src_str trivial⟩
  | _ => cases h2
theorem pi_rngR (hg : Gl X "range") (hm : X.mg "range" = none) (ha : PA X [a] (RAs M B φ [sa])) (hs : starEach [a] X.env = [(false, eval a X.env)]) : PI X tg (.Call (.Name "range" p) [a] [] pos) (RIt M B φ .rng [sa]) := PI.imp (pi_range1 hg hm ha hs) fun σ H R ⟨T, env, S, ds, S1, items, r, h1, h2, k⟩ => by
  refine ⟨T, env, S, ds, S1, r, h1, fun vs T' H' ev rl rp => ?_⟩
  obtain ⟨d, rfl, e1⟩ := evEs_one h1
  cases d with
  | int j =>
    simp only [itD] at h2
    split at h2
    · rename_i hj
      cases h2
      cases rp with
      | cons r1 r2 =>
        cases r1
        cases r2
        exact ⟨j, rfl, hj.1, hj.2, k _ T' H' _ ev rl src_rng trivial⟩
    · cases h2
  | _ => cases h2
theorem pi_enumR (hg : Gl X "enumerate") (hm : X.mg "enumerate" = none) (ha : PA X [e] (RAs M B φ [sa])) (hs : starEach [e] X.env = [(false, eval e X.env)]) : PI X (.Tuple elts kk tpos) (.Call (.Name "enumerate" p) [e] [] pos) (RIt M B φ (.enum 0) [sa]) := PI.imp (pi_enum hg hm ha hs) fun σ H R ⟨T, env, S, ds, S1, items, r, h1, h2, k⟩ => by
  refine ⟨T, env, S, ds, S1, r, h1, fun vs T' H' ev rl rp => ?_⟩
  obtain ⟨d, rfl, e1⟩ := evEs_one h1
  cases d with
  | lst xs =>
    cases h2
    cases rp with
    | cons r1 r2 =>
      cases r2
      cases r1 with
      | lst h n ra => exact ⟨_, _, rfl, .inl (.inl h), k _ T' H' _ ev rl (src_enum X.K) ⟨h, n, ra⟩⟩
  | _ => cases h2
theorem evEs_two (h : evEs B φ [sa, sb] env S = some (ds, S1)) : ∃ d d', ds = [d, d'] := by
  simp only [evEs] at h
  obtain ⟨d, S2, e, h⟩ := bnd_eq h
  obtain ⟨d', S3, e', h⟩ := bnd_eq h
  obtain ⟨d2, S4, e2, h2⟩ := bnd_eq e'
  cases h2
  cases h
  exact ⟨_, _, rfl⟩
theorem pi_zipR (hg : Gl X "zip") (hm : X.mg "zip" = none) (ha : PA X [e, e2] (RAs M B φ [sa, sb])) (hs : starEach [e, e2] X.env = (false, eval e X.env) :: starEach [e2] X.env) (hs2 : (backTo pos (starEach [e2] X.env)).any (·.1) = false) : PI X (.Tuple elts kk tpos) (.Call (.Name "zip" p) [e, e2] [] pos) (RIt M B φ .zip [sa, sb]) := PI.imp (pi_zip hg hm ha hs hs2) fun σ H R ⟨T, env, S, ds, S1, items, r, h1, h2, k⟩ => by
  refine ⟨T, env, S, ds, S1, r, h1, fun vs T' H' ev rl rp => ?_⟩
  obtain ⟨d, d', rfl⟩ := evEs_two h1
  cases d with
  | lst xs =>
    cases d' with
    | lst ys =>
      cases h2
      cases rp with
      | cons r1 r2 =>
        cases r2 with
        | cons r2 r3 =>
          cases r3
          cases r1 with
          | lst h n ra =>
            cases r2 with
            | lst h' n' ra' => exact ⟨_, _, _, _, rfl, .inl (.inl h), .inl (.inl h'), k _ T' H' _ ev rl (src_zip X.K) ⟨⟨h, n, ra⟩, h', n', ra'⟩⟩
    | _ => cases h2
  | _ => cases h2
theorem itD_one {d : D} (h : itD k [d] = some items) : True := trivial
/-- what a for does -/
def forG (t : RI.TG) (f : List Slot → Store → RS) : D → List Slot → Store → RS := fun d env1 S2 => match bndT t d env1 with
  | some env2 => f env2 S2
  | none => .bad
theorem forCore {J : It} {G : Tg → Hp → Prop} {g : RI.TG} {f : List Slot → Store → RS} {D : Ends} (sr : Src M J items G) (hr : Rel M T1 σ H1 env S) (ev : EvS T H T1 H1) (g0 : G T1 H1) (hp : PostS M T H D (forL (forG g f) items env S)) :
    ∃ W : Nat → Nat → L2.St → Hp → Prop, (∃ m, W 0 m σ H1) ∧ ∀ i m σ H, W i m σ H → (J.stop i H ∧ D.nx σ H) ∨ (J.go i H ∧ ∃ N : L2.St → Hp → Prop, (∀ σ' H', N σ' H' → ∃ m', m' < m ∧ W (i + 1) m' σ' H') ∧
      ∀ x H', J.yld i H x H' → RG M g x σ H' fun σ2 H2 => RSt M f { D with nx := N, ct := N, bk := D.nx } σ2 H2) := by
  generalize hR : forL (forG g f) items env S = R at hp
  refine ⟨fun i m σ' H' => m = items.length - i ∧ ∃ T' env' S', Rel M T' σ' H' env' S' ∧ EvS T H T' H' ∧ G T' H' ∧ forL (forG g f) (items.drop i) env' S' = R, ⟨items.length, by omega, T1, env, S, hr, ev, g0, by rw [List.drop_zero]; exact hR⟩, ?_⟩
  rintro i m σ1 H2 ⟨hm, T2, env2, S2, r2, ev2, g2, e2⟩
  by_cases hi : i < items.length
  · refine .inr ⟨sr.go i T2 H2 g2 hi, fun σ' H' => ∃ T' env' S', Rel M T' σ' H' env' S' ∧ EvS T H T' H' ∧ G T' H' ∧ forL (forG g f) (items.drop (i + 1)) env' S' = R, fun σ' H' h => ⟨items.length - (i + 1), by omega, rfl, h⟩, fun x H' hy => ?_⟩
    obtain ⟨d, T3, hd, ev3, r3, rp⟩ := sr.yld i T2 σ1 H2 env2 S2 x H' g2 r2 hy hi
    have hdr : items.drop i = d :: items.drop (i + 1) := by
      rw [List.drop_eq_getElem_cons hi]
      congr 1
      rw [List.getElem?_eq_getElem hi] at hd
      exact Option.some.inj hd
    rw [hdr] at e2
    simp only [forL] at e2
    unfold forG at e2
    have g3 := sr.stay T2 H2 T3 H' ev3.s g2
    have evA := ev2.trans ev3.s
    cases hb : bndT g d env2 with
    | none => rw [hb] at e2; subst e2; exact hp.elim
    | some env3 =>
      rw [hb] at e2
      dsimp only at e2
      refine ⟨T3, env2, S2, d, env3, r3, rp, hb, fun σ4 _ r4 => ⟨T3, env3, S2, r4, ?_⟩⟩
      cases q : f env3 S2 with
      | next env5 S5 => rw [q] at e2; exact fun σ5 T5 H5 ev5 r5 => ⟨T5, env5, S5, r5, evA.trans ev5, sr.stay _ _ _ _ ev5 g3, e2⟩
      | cont env5 S5 => rw [q] at e2; exact fun σ5 T5 H5 ev5 r5 => ⟨T5, env5, S5, r5, evA.trans ev5, sr.stay _ _ _ _ ev5 g3, e2⟩
      | brk env5 S5 => rw [q] at e2; subst e2; exact PostS.ev evA hp
      | ret d5 env5 S5 => rw [q] at e2; subst e2; exact PostS.ev evA hp
      | bad => rw [q] at e2; subst e2; exact hp.elim
  · refine .inl ⟨sr.stop i T2 H2 g2 (by omega), ?_⟩
    rw [List.drop_eq_nil_of_le (by omega)] at e2
    simp only [forL] at e2
    subst e2
    exact hp σ1 T2 H2 ev2 r2
theorem ps_forR (hp : PassesOwn (model X.prog X.w) X.A X.env X.xe) (hc : X.calm = true) (hi : PI X tg iter (RIt M B φ k its)) (hg : PG X tg (RG M t)) (hb : PSs X body (RSt M (evSs B φ sp))) (hs : ∀ v, foldedSetIterable iter X.env v = pure v) : PS X (.For tg iter body [] pos) (RSt M (evS B φ (.for_ none t k its sp))) := PS.imp (ps_for hp hc hi hg hb hs) fun D σ H ⟨T, env, S, r, h⟩ => by
  simp only [evS] at h
  obtain ⟨ds, S1, e, e2⟩ := bndL_ne h.ne
  rw [e2] at h
  cases hq : itD k ds with
  | none => rw [hq] at h; exact h.elim
  | some items =>
    rw [hq] at h
    refine ⟨T, env, S, ds, S1, items, r, e, hq, fun J T' H' G ev rl sr g0 => ?_⟩
    exact forCore sr rl ev.s g0 h
end
end RI
end

section
namespace RI
open PySem PySem.Spec L2
section
variable {M : Nm} {T T0 T1 T2 T3 T' : Tg} {σ σ' σ2 : L2.St} {H H0 H1 H2 H' : Hp} {env env' : List Slot} {S S1 S2 S3 : Store} {x : Addr} {i j : Nat} {acc acc' : List V} {vs ws : List Nat} {o : HO}
theorem wipe_in : ∀ {vs : List Nat} {σ : L2.St}, j ∈ vs → (wipe σ vs)[j]? = if j < σ.length then some none else none
  | [], _, h => by cases h
  | v :: vs, σ, h => by
    unfold wipe
    by_cases q : v = j
    · subst q
      by_cases l : v < σ.length
      · rw [List.getElem?_set_self (by rw [wipe_length]; exact l), if_pos l]
      · rw [List.getElem?_eq_none (by rw [List.length_set, wipe_length]; omega), if_neg l]
    · rw [List.getElem?_set_ne q]
      exact wipe_in (by
        rcases List.mem_cons.mp h with h | h
        · exact absurd h.symm q
        · exact h)
theorem Sm.wipe (s : Sm ws (L2.wipe σ vs) σ2) (h : ∀ j ∈ ws, j ∈ vs) : L2.wipe σ2 vs = L2.wipe σ vs := by
  apply List.ext_getElem?
  intro j
  by_cases q : j ∈ vs
  · rw [wipe_in q, wipe_in q, s.len, wipe_length]
  · rw [wipe_out q, s.at_ j fun z => q (h j z)]
theorem Rel.wipe (r : Rel M T σ H env S) : ∀ vs : List Nat, Rel M T (L2.wipe σ vs) H (wipeE env vs) S
  | [] => r
  | v :: vs => by
    have r' := Rel.wipe r vs
    unfold L2.wipe wipeE
    refine ⟨by rw [List.length_set, List.length_set]; exact r'.len, fun j => ?_, r'.tg, r'.st⟩
    by_cases q : v = j
    · subst q
      by_cases l : v < (wipeE env vs).length
      · rw [List.getElem?_set_self l]
        trivial
      · rw [List.getElem?_eq_none (l := (wipeE env vs).set v .emp) (by rw [List.length_set]; omega)]
        trivial
    · rw [List.getElem?_set_ne q, List.getElem?_set_ne q]
      exact r'.slot j
theorem evS_put (tx : T x = some (.slot i)) (hx : H x = some (.lst acc)) : EvS T H T (upd H x o) :=
  ⟨fun a o' h n => (by rw [upd_ne (fun q => by rw [q, tx] at n; cases n)]; exact h), fun a xs h => (by rw [upd_ne (fun q => by rw [q, hx] at h; cases h)]; exact h), fun a o' u h => (by rw [upd_ne (fun q => by rw [q, hx] at h; cases h)]; exact h),
    fun a t h n => (by rw [n] at h; cases h), fun _ _ h => h, fun _ h => h, fun a o' h => (by
      by_cases q : a = x
      · exact ⟨o, by rw [q]; exact upd_same⟩
      · exact ⟨o', by rw [upd_ne q]; exact h⟩)⟩
theorem ev_putNew (e : Ev T H T' H') (hn : H x = none) : Ev T H T' (upd H' x o) :=
  have ne : ∀ {a o'}, H a = some o' → a ≠ x := fun h q => by rw [q, hn] at h; cases h
  ⟨fun a o' h n => (by rw [upd_ne (ne h)]; exact e.keep a o' h n), fun a xs h => (by rw [upd_ne (ne h)]; exact e.tups a xs h), fun a o' u h => (by rw [upd_ne (ne h)]; exact e.frzs a o' u h), e.new, e.cells, e.outs, e.slots, fun a o' h => (by rw [upd_ne (ne h)]; exact e.there a o' h)⟩
theorem ev_retag {t : Tag} (e : Ev T H T' H') (hn : H x = none) (tg : ∀ a t, T a = some t → ∃ o, H a = some o) : Ev T H (tag T' x t) H' := by
  have nt : T x = none := by
    cases q : T x with
    | none => rfl
    | some t => obtain ⟨o, z⟩ := tg x t q; rw [hn] at z; cases z
  have ne : ∀ b t', T b = some t' → b ≠ x := fun b t' z q => by rw [q, nt] at z; cases z
  exact ⟨e.keep, e.tups, e.frzs, fun b t' z n => (by
      by_cases q : b = x
      · rw [q]; exact hn
      · rw [tag_ne q] at z; exact e.new b t' z n), fun b n z => (by rw [tag_ne (ne b _ z)]; exact e.cells b n z), fun b z => (by rw [tag_ne (ne b _ z)]; exact e.outs b z), fun b i z => (by rw [tag_ne (ne b _ z)]; exact e.slots b i z), e.there⟩
/-- a slot's node changes, no name of the frame holds it -/
theorem Rel.putPh (r : Rel M T σ H env S) (tx : T x = some (.slot i)) (hi : env.length ≤ i) (hx : H x = some (.lst acc)) : Rel M T σ (upd H x (.lst acc')) env S := by
  have ev : EvS T H T (upd H x (.lst acc')) := evS_put tx hx
  have ns : ∀ {a j}, T a = some (.slot j) → j < env.length → a ≠ x := fun h l q => by
    rw [q, tx] at h
    cases h
    omega
  refine ⟨r.len, fun j => ?_, fun a t z => ?_, fun n c h => ?_, r.st.uniq, r.st.range⟩
  · have s := r.slot j
    by_cases l : j < env.length
    · cases w : env[j]? with
      | none => trivial
      | some sl =>
        rw [w] at s
        cases sl with
        | emp => trivial
        | frz d => obtain ⟨v, h, rp⟩ := s; exact ⟨v, h, rp.evS ev⟩
        | own d =>
          obtain ⟨y, h, t, nd⟩ := s
          refine ⟨y, h, t, ?_⟩
          cases nd with
          | lst h r => exact .lst (by rw [upd_ne (ns t l)]; exact h) (r.evS ev)
          | dct h k r => exact .dct (by rw [upd_ne (ns t l)]; exact h) k (r.evS ev)
          | dctT h k r => exact .dctT (by rw [upd_ne (ns t l)]; exact h) k (r.evS ev)
          | obj h c k r => exact .obj (by rw [upd_ne (ns t l)]; exact h) c k (r.evS ev)
        | lck d =>
          obtain ⟨y, h, t, nd⟩ := s
          refine ⟨y, h, t, ?_⟩
          have rd : ∀ {o}, Rd H y o → Rd (upd H x (.lst acc')) y o := fun q => by
            rcases q with q | ⟨ob, q⟩
            · exact .inl (by rw [upd_ne (ns t l)]; exact q)
            · exact .inr ⟨ob, by rw [upd_ne (ns t l)]; exact q⟩
          cases nd with
          | lst h r => exact .lst (by rw [upd_ne (ns t l)]; exact h) (r.evS ev)
          | dct h k r => exact .dct (rd h) k (r.evS ev)
          | dctT h k r => exact .dctT (rd h) k (r.evS ev)
          | obj h c k r => exact .obj (by rw [upd_ne (ns t l)]; exact h) c k (r.evS ev)
    · rw [List.getElem?_eq_none (l := env) (by omega)]
      trivial
  · obtain ⟨o, h⟩ := r.tg a t z
    exact ev.there a o h
  · obtain ⟨y, t, ok⟩ := r.st.cell n c h
    refine ⟨y, t, ?_⟩
    have ne : y ≠ x := fun q => by rw [q, tx] at t; cases t
    cases ok with
    | lst h2 r => exact .lst (by rw [upd_ne ne]; exact h2) (r.evS ev)
theorem les_retag {t : Tag} (tx : T x = some (.slot i)) : Les T (tag T x t) := les_tag ⟨_, tx, by intro n z; cases z⟩
theorem Rel.retag (r : Rel M T σ H env S) (tx : T x = some (.slot i)) (hi : env.length ≤ i) : Rel M (tag T x .out) σ H env S := by
  have le : Les T (tag T x .out) := les_retag tx
  have ns : ∀ {a j}, T a = some (.slot j) → j < env.length → a ≠ x := fun h l q => by
    rw [q, tx] at h
    cases h
    omega
  refine ⟨r.len, fun j => ?_, fun a t z => ?_, fun n c h => ?_, fun b b' n h h' => ?_, fun b n h => ?_⟩
  · have s := r.slot j
    by_cases l : j < env.length
    · cases w : env[j]? with
      | none => trivial
      | some sl =>
        rw [w] at s
        cases sl with
        | emp => trivial
        | frz d => obtain ⟨v, h, rp⟩ := s; exact ⟨v, h, rp.les le⟩
        | own d => obtain ⟨y, h, t, rp⟩ := s; exact ⟨y, h, by rw [tag_ne (ns t l)]; exact t, rp.les le⟩
        | lck d => obtain ⟨y, h, t, rp⟩ := s; exact ⟨y, h, by rw [tag_ne (ns t l)]; exact t, rp.les le⟩
    · rw [List.getElem?_eq_none (l := env) (by omega)]
      trivial
  · by_cases q : a = x
    · rw [q]; exact r.tg x _ tx
    · rw [tag_ne q] at z; exact r.tg a t z
  · obtain ⟨y, t, ok⟩ := r.st.cell n c h
    exact ⟨y, le.cell y n t, ok.les le⟩
  all_goals
    have key : ∀ {y n}, tag T x .out y = some (.cell n) → T y = some (.cell n) := fun {y n} z => by
      by_cases q : y = x
      · rw [q, tag_same] at z; cases z
      · rw [tag_ne q] at z; exact z
  · exact r.st.uniq b b' n (key h) (key h')
  · exact r.st.range b n (key h)
end
section
variable {X : Cx} {M : Nm} {B : Tb} {φ : Phi} {a b c o e e2 elt : Expr} {sa sb sc : SE} {pos apos p tpos : Pos} {rest : List Stmt} {T T0 T1 T2 T3 T' : Tg} {σ σ' : L2.St} {H H0 H1 H2 H' : Hp} {env env' : List Slot} {S S1 S2 S3 S5 Sa : Store} {x y z d : D} {u v : V} {es elts ifs : List Expr} {ss its : List SE} {ds items xs : List D} {vs : List Nat} {i kk : Nat} {st : Stmt} {s : SS} {sr sp : List SS} {t : RI.TG} {ts : List RI.TG} {tg iter : Expr} {body : List Stmt} {k : IK}
/-- where the building of a list stands -/
def LcI (M : Nm) (T1 : Tg) (H1 : Hp) (σ : L2.St) (env : List Slot) (G : Tg → Hp → Prop) (D : Addr) (g : RI.D → Store → Rs (Option RI.D)) (items xs : List RI.D) (S5 : Store) (i : Nat) (H' : Hp) : Prop :=
  ∃ T' S' acc accD rest, Ev T1 H1 T' H' ∧ Rel M T' σ H' env S' ∧ G T' H' ∧ T' D = some (.slot env.length) ∧ H' D = some (.lst acc) ∧ RepAll M T' H' acc accD ∧ accD.length ≤ i ∧ loopL g (items.drop i) S' = some (rest, S5) ∧ accD ++ rest = xs
def lcF (B : Tb) (φ : Phi) (c e : SE) (env1 : List Slot) (S2 : Store) : Rs (Option D) := bndB (evE B φ c env1 S2) fun b S3 => if b then bnd (evE B φ e env1 S3) fun x S4 => some (some x, S4) else some (none, S3)
def lcG (B : Tb) (φ : Phi) (vs : List Nat) (t : RI.TG) (c e : SE) (env : List Slot) : D → Store → Rs (Option D) := fun d S2 => match bndT t d (wipeE env vs) with
  | some env1 => lcF B φ c e env1 S2
  | none => none
theorem drop_step {α : Type} {items : List α} {d : α} (hd : items[i]? = some d) : items.drop i = d :: items.drop (i + 1) := by
  have hi : i < items.length := by
    by_cases h : i < items.length
    · exact h
    · rw [List.getElem?_eq_none (by omega)] at hd; cases hd
  rw [List.drop_eq_getElem_cons hi]
  congr 1
  rw [List.getElem?_eq_getElem hi] at hd
  exact Option.some.inj hd
theorem lcCore {J : It} {G : Tg → Hp → Prop} {D : Addr} {Q : VK} (sr : Src M J items G) (r1 : Rel M T1 σ H1 env Sa) (g0 : G T1 H1) (hD : H1 D = none) (eb : loopL (lcG B φ vs t sc sa env) items Sa = some (xs, S5)) (hle : items.length ≤ sizeLine) (hv : ∀ j ∈ tgv t, j ∈ vs)
    (k : ∀ T' H', Ev T1 H1 T' H' → Rel M T' σ H' env S5 → T' D = some .out → Node M T' H' D (.lst xs) → Q (.ref D) H') :
    ∃ W : Nat → Nat → Hp → Prop, (∃ m, W 0 m (upd H1 D (.lst []))) ∧ ∀ i m H, W i m H → (J.stop i H ∧ Q (.ref D) H) ∨ (J.go i H ∧ ∃ Nx : Hp → Prop, (∀ H', Nx H' → ∃ m', m' < m ∧ W (i + 1) m' H') ∧
      ∀ x H', J.yld i H x H' → RG M t x (wipe σ vs) H' fun σ2 H2 => wipe σ2 vs = wipe σ vs ∧ RT M B φ sc σ2 H2 fun b H3 => if b = true then RE M B φ sa σ2 H3 fun y H4 => ∃ acc, H4 D = some (.lst acc) ∧ acc.length < sizeLine ∧ Nx (upd H4 D (.lst (acc ++ [y]))) else Nx H3) := by
  refine ⟨fun i m H => m = items.length - i ∧ LcI M T1 H1 σ env G D (lcG B φ vs t sc sa env) items xs S5 i H, ?_, ?_⟩
  · obtain ⟨ev, r2⟩ := r1.laidT (o := .lst []) (t := .slot env.length) hD (by intro n z; cases z)
    exact ⟨items.length, by omega, _, Sa, [], [], xs, ev, r2, sr.stay _ _ _ _ ev.s g0, tag_same, upd_same, .nil, Nat.le_refl _, by rw [List.drop_zero]; exact eb, rfl⟩
  rintro i m H2 ⟨hm, T2, S2, acc, accD, rest, ev2, r2, g2, tD, hD2, ra, hl, e2, exs⟩
  by_cases hi : i < items.length
  · refine .inr ⟨sr.go i T2 H2 g2 hi, LcI M T1 H1 σ env G D (lcG B φ vs t sc sa env) items xs S5 (i + 1), fun H' h => ⟨items.length - (i + 1), by omega, rfl, h⟩, fun x H3 hy => ?_⟩
    obtain ⟨d, T3, hd, ev3, r3, rp⟩ := sr.yld i T2 σ H2 env S2 x H3 g2 r2 hy hi
    rw [drop_step hd] at e2
    simp only [loopL] at e2
    obtain ⟨od, S3, e3, e4⟩ := bnd_eq e2
    obtain ⟨xs2, S4, e5, e6⟩ := bnd_eq e4
    unfold lcG at e3
    split at e3
    · rename_i env1 hb
      refine ⟨T3, _, S2, d, env1, r3.wipe vs, rp, hb, fun σ2 sm r4 => ⟨sm.wipe hv, ?_⟩⟩
      unfold lcF at e3
      obtain ⟨b, S6, ec, e3⟩ := bndB_eq e3
      refine ⟨T3, env1, S2, b, S6, r4, ec, fun T4 H4 ev4 r5 => ?_⟩
      cases b with
      | true =>
        rw [if_pos rfl] at e3 ⊢
        obtain ⟨y, S7, ee, e3⟩ := bnd_eq e3
        cases e3
        refine ⟨T4, env1, S6, y, S3, r5, ee, fun v T5 H5 ev5 r6 rv => ?_⟩
        have evA : Ev T2 H2 T5 H5 := (ev3.then ev4).then ev5
        have tD5 : T5 D = some (.slot env.length) := evA.slots D _ tD
        have hD5 : H5 D = some (.lst acc) := evA.keep D _ hD2 (by rw [tD]; rfl)
        have r7 : Rel M T5 σ H5 env S3 := r3.go (ev4.then ev5) r6.tg r6.st
        have evP : EvS T5 H5 T5 (upd H5 D (.lst (acc ++ [v]))) := evS_put tD5 hD5
        refine ⟨acc, hD5, by rw [ra.length]; omega, T5, S3, acc ++ [v], accD ++ [y], xs2, ev_putNew (ev2.then evA) hD, r7.putPh tD5 (Nat.le_refl _) hD5, sr.stay _ _ _ _ evP (sr.stay _ _ _ _ evA.s g2), tD5, upd_same, ?_, by simp; omega, ?_, ?_⟩
        · exact ((ra.ev evA).append (.cons rv .nil)).evS evP
        · cases e6
          exact e5
        · cases e6
          rw [← exs, List.append_assoc]
          rfl
      | false =>
        rw [if_neg Bool.false_ne_true] at e3 ⊢
        cases e3
        have evA : Ev T2 H2 T4 H4 := ev3.then ev4
        refine ⟨T4, S3, acc, accD, xs2, ev2.then evA, r3.go ev4 r5.tg r5.st, sr.stay _ _ _ _ evA.s g2, evA.slots D _ tD, evA.keep D _ hD2 (by rw [tD]; rfl), ra.ev evA, by omega, ?_, ?_⟩
        · cases e6
          exact e5
        · cases e6
          exact exs
    · cases e3
  · refine .inl ⟨sr.stop i T2 H2 g2 (by omega), ?_⟩
    rw [List.drop_eq_nil_of_le (by omega)] at e2
    simp only [loopL] at e2
    cases e2
    rw [List.append_nil] at exs
    subst exs
    exact k _ _ (ev_retag ev2 hD r1.tg) (r2.retag tD (Nat.le_refl _)) tag_same (.lst hD2 (ra.les (les_retag tD)))
theorem pts_nilR : PTs X [] (RT M B φ (.cbl true)) := ⟨fun p s σ H Q I ⟨T, env, S, b, S1, r, e, k⟩ => by
  simp only [evE] at e
  cases e
  exact pts_nil.run p s σ H Q I (k T H .refl r)⟩
theorem lc_read {own : List (Str × Nat)} {Q : VK} (hv : ∀ j ∈ tgv t, j ∈ own.map (·.2)) {σ : L2.St} {H : Hp} (q : RX M B φ (.lc (own.map (·.2)) sa t k its sc) σ H Q) : tLc (RIt M B φ k its) (RG M t) (RT M B φ sc) (RE M B φ sa) (own.map (·.2)) σ H Q := by
  obtain ⟨T, env, S, d, S1, r, e, kk⟩ := q
  simp only [evE] at e
  obtain ⟨ds, Sa, ea, e⟩ := bnd_eq e
  cases hq : itD k ds with
  | none => rw [hq] at e; cases e
  | some items =>
    rw [hq] at e
    dsimp only at e
    split at e
    · rename_i hle
      obtain ⟨xs, S5, eb, e⟩ := bnd_eq e
      cases e
      refine ⟨T, env, S, ds, Sa, items, r, ea, hq, fun J T1 H1 G ev1 r1 sr g0 D hD => ?_⟩
      refine lcCore sr r1 g0 hD eb hle hv fun T' H' ev' r' tD nd => kk _ T' H' (ev1.then ev') r' ⟨D, rfl, ev_free ev1 hD, tD, nd⟩
    · cases e
theorem rx_lc {scope : Scope} {own : List (Str × Nat)} (hc : X.calm = true) (hN : X.N.Nodup) (hi : PI X tg iter (RIt M B φ k its)) (ok : BlkOk X.N X.env.scope scope own) (hv : ∀ j ∈ tgv t, j ∈ own.map (·.2))
    (hg : ∀ (s : Shared) (H : Hp) (C : Addr) (cl : List (Str × Addr)) (fp : List Addr), PG (X.blk s H scope (compEnvC scope cl C X.env) fp) tg (RG M t)) (ht : ∀ (s : Shared) (H : Hp) (C : Addr) (cl : List (Str × Addr)) (fp : List Addr), PTs (X.blk s H scope (compEnvC scope cl C X.env) fp) ifs (RT M B φ sc))
    (he : ∀ (s : Shared) (H : Hp) (C : Addr) (cl : List (Str × Addr)) (fp : List Addr), PE (X.blk s H scope (compEnvC scope cl C X.env) fp) elt (RE M B φ sa)) (hs : ∀ x, foldedSetIterable iter X.env x = pure x) :
    PE X (.ListComp elt [⟨tg, iter, ifs, 0⟩] scope pos) (RX M B φ (.lc (own.map (·.2)) sa t k its sc)) :=
  PE.imp (pe_lc hc hN hi ok hg ht he hs) fun σ H Q q => lc_read hv q
theorem ps_setLcR {scope : Scope} {own : List (Str × Nat)} {i : Nat} {nm : Str} {py spos : Pos} (hc : X.calm = true) (hN : X.N.Nodup) (hy : X.N[i]? = some nm) (hyl : X.env.scope.names.lookup nm = some .local)
    (hsw : swapsWith (.ListComp elt [⟨tg, iter, ifs, 0⟩] scope pos) (some (.Name nm py)) spos.line X.env = pure true) (hi : PI X tg iter (RIt M B φ k its)) (ok : BlkOk X.N X.env.scope scope own) (hv : ∀ j ∈ tgv t, j ∈ own.map (·.2))
    (hg : ∀ (s : Shared) (H : Hp) (C : Addr) (cl : List (Str × Addr)) (fp : List Addr), PG (X.blk s H scope (compEnvC scope cl C X.env) fp) tg (RG M t)) (ht : ∀ (s : Shared) (H : Hp) (C : Addr) (cl : List (Str × Addr)) (fp : List Addr), PTs (X.blk s H scope (compEnvC scope cl C X.env) fp) ifs (RT M B φ sc))
    (he : ∀ (s : Shared) (H : Hp) (C : Addr) (cl : List (Str × Addr)) (fp : List Addr), PE (X.blk s H scope (compEnvC scope cl C X.env) fp) elt (RE M B φ sa)) (hs : ∀ x, foldedSetIterable iter X.env x = pure x) :
    PS X (.Assign [.Name nm py] (.ListComp elt [⟨tg, iter, ifs, 0⟩] scope pos) spos) (RSt M (evS B φ (.asg i (.lc (own.map (·.2)) sa t k its sc)))) :=
  PS.imp (ps_setLc hc hN hy hyl hsw hi ok hg ht he hs) fun D σ H ⟨T, env, S, r, h⟩ => by
    rw [evS] at h
    obtain ⟨d, S1, e, e2⟩ := bndS_ne h.ne
    rw [e2] at h
    refine lc_read hv ⟨T, env, S, d, S1, r, e, fun v T' H' ev rl n => ?_⟩
    have hd : isNode d = true := by
      rw [evE] at e
      obtain ⟨_, _, _, e⟩ := bnd_eq e
      split at e
      · split at e
        · obtain ⟨_, _, _, e⟩ := bnd_eq e
          cases e
          rfl
        · cases e
      · cases e
    unfold New at n
    rw [hd] at n
    obtain ⟨x, rfl, hn, tx, nd⟩ := n
    obtain ⟨e1, r1, p1⟩ := r.freeze ev rl hn tx nd
    exact h _ _ H' e1.s (r1.set p1)
theorem ps_ownLcR {scope : Scope} {own : List (Str × Nat)} {i : Nat} {nm : Str} {py spos : Pos} (hc : X.calm = true) (hN : X.N.Nodup) (hy : X.N[i]? = some nm) (hyl : X.env.scope.names.lookup nm = some .local)
    (hsw : swapsWith (.ListComp elt [⟨tg, iter, ifs, 0⟩] scope pos) (some (.Name nm py)) spos.line X.env = pure true) (hi : PI X tg iter (RIt M B φ k its)) (ok : BlkOk X.N X.env.scope scope own) (hv : ∀ j ∈ tgv t, j ∈ own.map (·.2))
    (hg : ∀ (s : Shared) (H : Hp) (C : Addr) (cl : List (Str × Addr)) (fp : List Addr), PG (X.blk s H scope (compEnvC scope cl C X.env) fp) tg (RG M t)) (ht : ∀ (s : Shared) (H : Hp) (C : Addr) (cl : List (Str × Addr)) (fp : List Addr), PTs (X.blk s H scope (compEnvC scope cl C X.env) fp) ifs (RT M B φ sc))
    (he : ∀ (s : Shared) (H : Hp) (C : Addr) (cl : List (Str × Addr)) (fp : List Addr), PE (X.blk s H scope (compEnvC scope cl C X.env) fp) elt (RE M B φ sa)) (hs : ∀ x, foldedSetIterable iter X.env x = pure x) :
    PS X (.Assign [.Name nm py] (.ListComp elt [⟨tg, iter, ifs, 0⟩] scope pos) spos) (RSt M (evS B φ (.own i (.lc (own.map (·.2)) sa t k its sc)))) :=
  PS.imp (ps_setLc hc hN hy hyl hsw hi ok hg ht he hs) fun D σ H ⟨T, env, S, r, h⟩ => by
    rw [evS] at h
    obtain ⟨d, S1, e, e2⟩ := bndS_ne h.ne
    rw [e2] at h
    split at h
    · rename_i hd
      refine lc_read hv ⟨T, env, S, d, S1, r, e, fun v T' H' ev rl n => ?_⟩
      unfold New at n
      rw [hd] at n
      obtain ⟨x, rfl, hn, tx, nd⟩ := n
      exact h _ _ H' (evS_tag ev.s hn r.tg) (rl.setOwn tx nd)
    · exact h.elim
end
end RI
end

section
namespace RI
open PySem PySem.Spec L2
section
variable {X : Cx} {M : Nm} {B : Tb} {φ : Phi} {a b c o e e2 elt : Expr} {sa sb sc sk : SE} {pos apos p tpos : Pos} {rest : List Stmt} {T T0 T1 T2 T3 T' : Tg} {σ σ' : L2.St} {H H0 H1 H2 H' : Hp} {env env' : List Slot} {S S1 S2 S3 S5 Sa : Store} {x y z d : D} {u v : V} {es elts ifs : List Expr} {ss its : List SE} {ds items xs : List D} {vs us : List V} {i j l n kk : Nat} {st : Stmt} {s : SS} {sr sp : List SS} {t : RI.TG} {ts : List RI.TG} {tg iter : Expr} {body : List Stmt} {k : IK}
theorem Rel.putCell {q : Addr} (r : Rel M T σ H env S) (tq : T q = some (.cell n)) (hq : H q = some (.lst us)) (hn : n < S.length) (ra : RepAll M T H vs ds) : Ev T H T (upd H q (.lst vs)) ∧ Rel M T σ (upd H q (.lst vs)) env (S.set n (.lst ds)) := by
  have ne : ∀ {b o}, H b = some o → isOwned (T b) = false → b ≠ q := fun _ h z => by rw [z, tq] at h; cases h
  have e : Ev T H T (upd H q (.lst vs)) := ⟨fun b o h f => (by rw [upd_ne (ne h f)]; exact h), fun b xs h => (by rw [upd_ne (fun z => by rw [z, hq] at h; cases h)]; exact h), fun b o w h => (by rw [upd_ne (fun z => by rw [z, hq] at h; cases h)]; exact h), fun b t h f => (by rw [f] at h; cases h), fun _ _ h => h, fun _ h => h, fun _ _ h => h, fun b o h => (by
      by_cases z : b = q
      · exact ⟨_, by rw [z]; exact upd_same⟩
      · exact ⟨o, by rw [upd_ne z]; exact h⟩)⟩
  refine ⟨e, ⟨r.len, fun i => (r.slot i).ev e, fun b t h => ?_, fun m c h => ?_, r.st.uniq, fun b m h => ?_⟩⟩
  · obtain ⟨o, w⟩ := r.tg b t h
    exact e.there b o w
  · by_cases z : n = m
    · subst z
      rw [List.getElem?_set_self hn] at h
      cases h
      exact ⟨q, tq, .lst upd_same (ra.ev e)⟩
    · rw [List.getElem?_set_ne z] at h
      obtain ⟨b, tb, ok⟩ := r.st.cell m c h
      refine ⟨b, tb, ?_⟩
      have nb : b ≠ q := fun w => by rw [w, tq] at tb; cases tb; exact z rfl
      cases ok with
      | lst h2 r2 => exact .lst (by rw [upd_ne nb]; exact h2) (r2.ev e)
  · rw [List.length_set]
    exact r.st.range b m h
theorem ixN_lt {n : Nat} {i : Int} {j : Nat} (h : ixN n i = some j) : j < n := by
  unfold ixN at h
  split at h
  · split at h
    · cases h; omega
    · cases h
  · split at h
    · cases h; omega
    · cases h
theorem ps_putR {pos' : Pos} (hv : PE X e (RE M B φ sa)) (ho : PE X o (RE M B φ sb)) (hk : PE X c (RE M B φ sk)) (hs : swapsWithSole [.Subscript o c pos'] e pos.line X.env = pure false) (hw : swappedStores [.Subscript o c pos'] e X.env = pure none) (hx : ∀ v, assign (.Subscript o c pos') X.env v = (do
      let ov ← holding [v] (eval o X.env)
      let iv ← holding [v, ov] (eval c X.env)
      standAt pos'
      holding [v, ov, iv] (setItem ov iv v)
      release [v, ov, iv] [])) :
    PS X (.Assign [.Subscript o c pos'] e pos) (RSt M (evS B φ (.putR sb sk sa))) := PS.imp (ps_asg hv (pg_sub ho hk set_list hx) hs hw) fun D σ H ⟨T, env, S, r, h⟩ => by
  simp only [evS] at h
  obtain ⟨v, S1, e1, h1⟩ := bndS_ne h.ne
  rw [h1] at h
  obtain ⟨x, S2, e2, h2⟩ := bndS_ne h.ne
  rw [h2] at h
  obtain ⟨y, S3, e3, h3⟩ := bndS_ne h.ne
  rw [h3] at h
  refine ⟨T, env, S, v, S1, r, e1, fun w T1 H1 ev1 r1 pv => ⟨T1, env, S1, x, S2, r1, e2, fun wo T2 H2 ev2 r2 po => ⟨T2, env, S2, y, S3, r2, e3, fun wk T3 H3 ev3 r3 pk => ?_⟩⟩⟩
  split at h
  · rename_i n i
    split at h
    · rename_i ds hc
      split at h
      · rename_i j hj
        have po3 := po.ev ev3
        cases po3 with
        | ref tq =>
          cases pk
          obtain ⟨q', tq', ok⟩ := r3.st.cell n _ hc
          have := r3.st.uniq _ _ n tq tq'
          subst this
          cases ok with
          | lst hq ra =>
            refine ⟨_, _, i, j, rfl, rfl, hq, by rw [ra.length]; exact hj, ?_⟩
            obtain ⟨ev4, r4⟩ := r3.putCell tq hq (r3.st.range _ n tq) (ra.set j ((pv.ev ev2).ev ev3))
            exact h σ T3 _ (((ev1.then ev2).then ev3).then ev4).s r4
      · exact h.elim
    · exact h.elim
  · exact h.elim
theorem idxD_ref (e : idxD (.ref n) y S = some (d, S1)) : ∃ ds i, S[n]? = some (.lst ds) ∧ y = .int i ∧ atI ds i = some d ∧ S1 = S := by
  unfold idxD at e
  dsimp only at e
  split at e
  · rename_i ds i h
    obtain ⟨e1, e2⟩ := lift_eq e
    exact ⟨ds, i, h, rfl, e1, e2⟩
  · cases e
theorem ps_parR {x y : Str} {px py pt : Pos} {kt k2 : Nat} {pt2 : Pos} {sb2 : SE} (hc : X.calm = true) (hN : X.N.Nodup) (hi : X.N[i]? = some x) (hj : X.N[j]? = some y) (hij : i ≠ j)
    (hx : X.env.scope.names.lookup x = some .local) (hy : X.env.scope.names.lookup y = some .local) (ha : PA X [a, b] (RAs M B φ [sa, sb]))
    (hw : swappedStores [.Tuple [.Name x px, .Name y py] kt pt] (.Tuple [a, b] k2 pt2) X.env = pure (some [x, y])) (hs : swapsWithSole [.Tuple [.Name x px, .Name y py] kt pt] (.Tuple [a, b] k2 pt2) pos.line X.env = pure false) :
    PS X (.Assign [.Tuple [.Name x px, .Name y py] kt pt] (.Tuple [a, b] k2 pt2) pos) (RSt M (evS B φ (.par [(i, false), (j, false)] [sa, sb]))) := PS.imp (ps_par hc hN hi hj hij hx hy ha hw hs) fun D σ H ⟨T, env, S, r, h⟩ => by
  simp only [evS] at h
  obtain ⟨ds, S1, e, h1⟩ := bndL_ne h.ne
  rw [h1] at h
  refine ⟨T, env, S, ds, S1, r, e, fun vs T1 H1 ev1 r1 ps => ?_⟩
  obtain ⟨d, d', rfl⟩ := evEs_two e
  cases ps with
  | cons p1 ps =>
    cases ps with
    | cons p2 ps =>
      cases ps
      simp only [parE, optE, if_neg Bool.false_ne_true] at h
      exact ⟨_, _, rfl, h _ T1 H1 ev1.s ((r1.set p1).set p2)⟩
theorem evEs_three {se : SE} (h : evEs B φ [sa, sb, se] env S = some (ds, S1)) : ∃ d d' d'', ds = [d, d', d''] := by
  simp only [evEs] at h
  obtain ⟨d, S2, e, h⟩ := bnd_eq h
  obtain ⟨d', S3, e', h⟩ := bnd_eq h
  cases h
  obtain ⟨d2, S4, e2, h2⟩ := bnd_eq e'
  obtain ⟨d3, S5, e3, h3⟩ := bnd_eq h2
  cases h3
  obtain ⟨d4, S6, e4, h4⟩ := bnd_eq e3
  cases h4
  exact ⟨_, _, _, rfl⟩
theorem ps_parR3 {x y z : Str} {px py pz pt : Pos} {kt k2 : Nat} {pt2 : Pos} {se : SE} (hc : X.calm = true) (hN : X.N.Nodup) (hi : X.N[i]? = some x) (hj : X.N[j]? = some y) (hl : X.N[l]? = some z) (hij : i ≠ j) (hil : i ≠ l) (hjl : j ≠ l)
    (hx : X.env.scope.names.lookup x = some .local) (hy : X.env.scope.names.lookup y = some .local) (hz : X.env.scope.names.lookup z = some .local) (ha : PA X [a, b, c] (RAs M B φ [sa, sb, se]))
    (hw : swappedStores [.Tuple [.Name x px, .Name y py, .Name z pz] kt pt] (.Tuple [a, b, c] k2 pt2) X.env = pure (some [x, y, z])) (hs : swapsWithSole [.Tuple [.Name x px, .Name y py, .Name z pz] kt pt] (.Tuple [a, b, c] k2 pt2) pos.line X.env = pure false) :
    PS X (.Assign [.Tuple [.Name x px, .Name y py, .Name z pz] kt pt] (.Tuple [a, b, c] k2 pt2) pos) (RSt M (evS B φ (.par [(i, false), (j, false), (l, false)] [sa, sb, se]))) := PS.imp (ps_par3 hc hN hi hj hl hij hil hjl hx hy hz ha hw hs) fun D σ H ⟨T, env, S, r, h⟩ => by
  simp only [evS] at h
  obtain ⟨ds, S1, e, h1⟩ := bndL_ne h.ne
  rw [h1] at h
  refine ⟨T, env, S, ds, S1, r, e, fun vs T1 H1 ev1 r1 ps => ?_⟩
  obtain ⟨d, d', d'', rfl⟩ := evEs_three e
  cases ps with
  | cons p1 ps =>
    cases ps with
    | cons p2 ps =>
      cases ps with
      | cons p3 ps =>
        cases ps
        simp only [parE, optE, if_neg Bool.false_ne_true] at h
        exact ⟨_, _, _, rfl, h _ T1 H1 ev1.s (((r1.set p1).set p2).set p3)⟩
def AugR (X : Cx) (op : Operator) (o : BOp) : Prop := ∃ r : TIp, PIp X op r ∧ ∀ (M : Nm) (T : Tg) (H : Hp) (x y d : D) (u v : V) (Q : VK), Rep M T H u x → RepB M T H v y → evAug o x y = some d → (∀ w, Rep M T H w d → Q w H) → r u v H Q
theorem evAug_eq {o : BOp} (h : evAug o x y = some d) : ((∃ i, x = .int i) ∨ ∃ z, x = .str z) ∧ evBin o x y = some d := by
  unfold evAug at h
  split at h
  · exact ⟨.inl ⟨_, rfl⟩, h⟩
  · exact ⟨.inr ⟨_, rfl⟩, h⟩
  · cases h
theorem aug_add : AugR X .Add .add := by
  refine ⟨fun x y H Q => (rI0 (fun i j => V.int (i + j)) x y H Q) ∨ (∃ i j, x = .str i ∧ y = .str j ∧ i.length + j.length ≤ sizeLine ∧ Q (.str (i ++ j)) H), ?_, fun M T H x y d u v Q ru rv h k => ?_⟩
  · intro p s σ H x y v u Q I r1 r2 h
    rcases h with h | h
    · exact iop_add p s σ H x y v u Q I r1 r2 h
    · exact iop_add_str p s σ H x y v u Q I r1 r2 h
  · obtain ⟨_, h⟩ := evAug_eq h
    rcases evAdd_eq h with ⟨i, j, rfl, rfl, rfl⟩ | ⟨i, j, rfl, rfl, hl, rfl⟩ | ⟨xs, ys, rfl, rfl, hl, rfl⟩
    · exact .inl ⟨_, _, ru.b.int, rv.int, k _ (.int _)⟩
    · exact .inr ⟨_, _, ru.b.str, rv.str, hl, k _ (.str _)⟩
    · rename_i q
      rcases q with ⟨i, q⟩ | ⟨z, q⟩ <;> cases q
theorem aug_sub : AugR X .Sub .sub := by
  refine ⟨_, iop_sub, fun M T H x y d u v Q ru rv h k => ?_⟩
  obtain ⟨_, h⟩ := evAug_eq h
  obtain ⟨i, j, n, rfl, rfl, q, rfl⟩ := evInts_eq (f := fSub) h
  cases q
  exact ⟨_, _, ru.b.int, rv.int, k _ (.int _)⟩
theorem ps_augR {nm : Str} {op : Operator} {o : BOp} {p' : Pos} (hN : X.N.Nodup) (hi : X.N[i]? = some nm) (hx : Loc X.env.scope nm) (ho : AugR X op o) (he : PE X e (RB M B φ sa)) (hf : X.fn nm = true ∨ X.env.scope.names.lookup nm = some .local) :
    PS X (.AugAssign (.Name nm p') op e pos) (RSt M (evS B φ (.aug i o sa))) := by
  obtain ⟨r0, h1, h2⟩ := ho
  refine PS.imp (ps_aug hN hi hx he h1 hf) fun D σ H ⟨T, env, S, r, h⟩ => ?_
  simp only [evS] at h
  split at h
  · rename_i x hx
    obtain ⟨y, S1, e1, e2⟩ := bndS_ne h.ne
    rw [e2] at h
    split at h
    · rename_i z hz
      have s := r.slot i
      rw [hx] at s
      obtain ⟨u, hu, ru⟩ := s
      refine ⟨u, hu, T, env, S, y, S1, r, e1, fun v T1 H1 ev1 r1 pv => ?_⟩
      exact h2 M T1 H1 x y z u v _ (ru.ev ev1) pv hz fun w rw' => h _ T1 H1 ev1.s (r1.set rw')
    · exact h.elim
  · exact h.elim
/-- what the written part must say of an exception class, so that isinstance asks its instances rightly -/
structure IsxC (K : PySem.W.Frag) (C : Addr) : Prop where
  hcl : (PySem.W.clsIn K C).isSome = true
  hga : PySem.W.findIn K (.ref C) "__getattribute__" = some (some (.builtin "BaseException.__getattribute__"))
  hgt : PySem.W.findIn K (.ref C) "__getattr__" = some none
  hs : PySem.W.subIn K (.ref C) (.type "BaseException") = some true
  ha : PySem.W.findIn K (.ref C) "__class__" = some (some (.builtin "object.__class__"))
  hm : PySem.W.mroIn K C (.type "object") = some true
structure IsoC (K : PySem.W.Frag) (C : Addr) : Prop where
  cl : Cls K C
  ha : PySem.W.findIn K (.ref C) "__class__" = some (some (.builtin "object.__class__"))
  hm : PySem.W.mroIn K C (.type "object") = some true
structure IsiF (K : PySem.W.Frag) : Prop where
  hn : PySem.W.specialIn K (.builtin "object.__class__") "__get__" = some (some (.builtin "getset_descriptor.__get__"))
  htk : PySem.W.takesIn K (.builtin "object.__class__") = some true
inductive TyE (K : PySem.W.Frag) (H : Hp) : V → Value → Prop where
  | base {x : V} {t : Value} (h : TyX K H x t) : TyE K H x t
  | exc {a C dx : Addr} {fs : List (Str × V)} (e : H a = some (exo a C (some dx))) (e2 : H dx = some (exd dx fs)) (c : IsxC K C) (f : IsiF K) : TyE K H (.ref a) (.ref C)
theorem kit_ofE {pins : List (Addr × Obj)} {s : Shared} {x : V} {u t : Value} (I : Inv X pins σ H s) (rx : RelV x u) (ty : TyE X.K H x t) : ∃ P : Heap → Prop, PySem.W.KitX X.K u t P ∧ P s.heap ∧ u ≠ .builtin "__main__.__loader__#opaque" := by
  cases ty with
  | base h => exact kit_of I rx h
  | @exc a C dx fs e e2 c f =>
    cases (show u = Value.ref a from rx)
    obtain ⟨t1, ha⟩ := exo_at I.hok e
    obtain ⟨mA, hns, hr⟩ := exd_at I.hok e2
    obtain ⟨od, ho, hl⟩ := lookIn_ns hns
    exact ⟨_, PySem.W.kitx_exc (od := some od) c.hcl c.hga c.hgt c.hs c.ha f.hn f.htk c.hm, ⟨ha, rfl, rfl, ho⟩, fun z => nomatch z⟩
def rIsA (K : PySem.W.Frag) : List V → Hp → VK → Prop := fun xs H Q => ∃ (x c : V) (t : Value) (b : Bool), xs = [x, c] ∧ TyE K H x t ∧ ((∃ u, ClsV c u ∧ PySem.W.kitOne K t u = some b) ∨ ∃ (tp : Addr) (cs : List V) (us : List Value), c = .ref tp ∧ H tp = some (.tup cs) ∧ Paired ClsV cs us ∧ PySem.W.kitAny K t us = some b) ∧ Q (.bl b) H
theorem call_isA : CallR X (.builtin "isinstance") (rIsA X.K) := by
  intro pins s σ H xs us Q I r h
  obtain ⟨x, c, t, b, rfl, ty, h, q⟩ := h
  obtain ⟨u1, u2, rfl, r1, r2⟩ := vals2 r
  obtain ⟨P, Z, p, hx⟩ := kit_ofE I r1 ty
  rcases h with ⟨u, k, e⟩ | ⟨tp, cs, ws, rfl, hT, k, e⟩
  · have e2 := k.eq r2
    subst e2
    exact PySem.W.kia_one Z I.kIn p e hx fun tk => ⟨.bl b, H, I.tok tk, rfl, q⟩
  · cases (show u2 = Value.ref tp from r2)
    obtain ⟨_, its, rv, o, h1, h2, n, h3⟩ := (show ObjOk X.prog X.w H s.heap tp (.tup cs) from I.hok tp _ hT)
    have e3 := ClsV.all k rv
    subst e3
    obtain ⟨oc, od, dt, sl⟩ := o
    simp only at h2 h3
    subst h2 h3
    exact PySem.W.kia_tup Z I.kIn p h1 e hx fun tk => ⟨.bl b, H, I.tok tk, rfl, q⟩
/-- the types and classes by their codes -/
def tyV (M : Nm) : Nat → Option Value
  | 0 => some (.type "int")
  | 1 => some (.type "bool")
  | 2 => some (.type "str")
  | 3 => some (.type "tuple")
  | 4 => some (.type "list")
  | 5 => some (.type "dict")
  | 6 => some (.type "NoneType")
  | 7 => some (.type "ValueError")
  | 8 => some (.type "LookupError")
  | 9 => some (.type "IndexError")
  | c + 10 => (match M.CA c with | some C => some (.ref C) | none => (match M.CX c with | some C => some (.ref C) | none => (M.CB c).map Value.ref))
structure IsiOk (X : Cx) (M : Nm) (B : Tb) : Prop where
  f : IsiF X.K
  own : ∀ c C, M.CA c = some C → IsoC X.K C
  exc : ∀ c C, M.CX c = some C → M.CA c = none ∧ IsxC X.K C
  sub : ∀ k t b, B.sub k t = some b → ∀ tv cv, tyV M k = some tv → tyV M t = some cv → PySem.W.kitOne X.K tv cv = some b
theorem ty_of {dk : Nat} (hK : M.K = X.K) (hI : IsiOk X M B) (r : RepB M T H v d) (h : tyD d = some dk) : ∃ tv, tyV M dk = some tv ∧ TyE X.K H v tv := by
  cases d with
  | non => cases h; rw [r.non]; exact ⟨_, rfl, .base (.base .non)⟩
  | bl b => cases h; rw [r.bl]; exact ⟨_, rfl, .base (.base (.bl _))⟩
  | int b => cases h; rw [r.int]; exact ⟨_, rfl, .base (.base (.int _))⟩
  | str b => cases h; rw [r.str]; exact ⟨_, rfl, .base (.base (.str _))⟩
  | tup ds =>
    cases h
    obtain ⟨a, xs, rfl, hs, _⟩ := r.tup
    rw [hK] at hs
    rcases hs with (hs | ⟨o, hs⟩) | hs
    · exact ⟨_, rfl, .base (.base (.tup hs))⟩
    · exact ⟨_, rfl, .base (.fTuple hs)⟩
    · obtain ⟨o, its, n, e, e2, _⟩ := hs
      exact ⟨_, rfl, .base (.kTuple e e2)⟩
  | lst ds => cases h; obtain ⟨a, xs, rfl, hs, _⟩ := r.lst; exact ⟨_, rfl, .base (.base (.lst hs))⟩
  | dct ds =>
    cases h
    obtain ⟨a, xs, rfl, hs, _⟩ := r.dct
    rcases hs with hs | ⟨o, hs⟩
    · exact ⟨_, rfl, .base (.base (.dK hs))⟩
    · exact ⟨_, rfl, .base (.fDict hs)⟩
  | obj c fs =>
    cases h
    obtain ⟨a, C, dx, gs, rfl, hp, hc, _, _⟩ := r.obj
    have I := hI.own c C hc
    refine ⟨.ref C, ?_, .base (.base (.ins hp I.cl I.ha hI.f.hn hI.f.htk I.hm))⟩
    show (match M.CA c with | some C => some (Value.ref C) | none => (match M.CX c with | some C => some (Value.ref C) | none => (M.CB c).map Value.ref)) = _
    rw [hc]
  | exc c fs =>
    cases h
    obtain ⟨a, C, dx, gs, rfl, hp, hd, _, _, hc, _, _⟩ := r.exc
    have I := hI.exc c C hc
    refine ⟨.ref C, ?_, .exc hp hd I.2 hI.f⟩
    show (match M.CA c with | some C => some (Value.ref C) | none => (match M.CX c with | some C => some (Value.ref C) | none => (M.CB c).map Value.ref)) = _
    rw [I.1, hc]
  | _ => cases h
end
end RI
end

section
namespace RI
open PySem PySem.Spec L2
section
variable {X : Cx} {M : Nm} {B : Tb} {φ : Phi} {a b c o e e2 elt : Expr} {sa sb sc sk : SE} {pos apos p tpos : Pos} {T T0 T1 T2 T3 T' : Tg} {σ σ' : L2.St} {H H0 H1 H2 H' : Hp} {env env' : List Slot} {S S1 S2 S3 S5 Sa : Store} {x y z d : D} {u v : V} {es : List Expr} {ss : List SE} {ds : List D} {vs us : List V}
/-- a class's name -/
structure ClsN (X : Cx) (M : Nm) (e : Expr) (t : Nat) (cv : V) : Prop where
  pe : PE X e (tC cv)
  cl : ∃ u, ClsV cv u ∧ tyV M t = some u
theorem clsn_own {x : Str} {C : Addr} {t : Nat} (hg : Gl X x) (hm : X.mg x = some (.ref C)) (hd : (x == ("__debug__" : Str)) = false) (ht : tyV M t = some (.ref C)) : ClsN X M (.Name x pos) t (.ref C) := ⟨pe_glob hg hm rfl hd, ⟨_, .own C, ht⟩⟩
theorem clsn_ty {x : Str} {n : String} {t : Nat} (hg : Gl X x) (hm : X.mg x = none) (hv : bootBuiltins x = some (.type n)) (hn : x ≠ "__name__") (hd : (x == ("__debug__" : Str)) = false) (ht : tyV M t = some (.type n)) : ClsN X M (.Name x pos) t (.ty n) := ⟨pe_bltn hg hm hv rfl hn hd, ⟨_, .ty n, ht⟩⟩
theorem isi_eq {ts : List Nat} (e : evE B φ (.isi sa ts) env S = some (d, S1)) : ∃ x k b, evE B φ sa env S = some (x, S1) ∧ tyD x = some k ∧ isiL (B.sub k) ts = some b ∧ d = .bl b := by
  simp only [evE] at e
  obtain ⟨x, Sx, ex, e⟩ := bnd_eq e
  split at e
  · rename_i k hk
    obtain ⟨e1, rfl⟩ := lift_eq e
    cases q : isiL (B.sub k) ts with
    | none => rw [q] at e1; cases e1
    | some b => rw [q] at e1; cases e1; exact ⟨x, k, b, ex, hk, q, rfl⟩
  · cases e
theorem re_isi {t : Nat} {cv : V} (hK : M.K = X.K) (hI : IsiOk X M B) (hg : Gl X "isinstance") (hm : X.mg "isinstance" = none) (hc : ClsN X M c t cv) (ha : PE X a (RB M B φ sa)) (hs : noStar [a, c] = true) :
    PE X (.Call (.Name "isinstance" p) [a, c] [] pos) (RE M B φ (.isi sa [t])) := by
  obtain ⟨u, hu, htu⟩ := hc.cl
  refine PE.imp (pe_callB call_isA hg hm (by kernel_rfl) (pa_cons ha (pa_cons hc.pe pa_nil (star_cons (noStar_tail hs))) (star_cons hs)) (by decide) (by decide) (star_cons hs) (star_any (noStar_tail hs))) fun σ H Q ⟨T, env, S, d, S1, r, e, k⟩ => ?_
  obtain ⟨x, kk, b, ex, hk, hb, rfl⟩ := isi_eq e
  refine ⟨T, env, S, x, S1, r, ex, fun v T1 H1 ev1 r1 pv => ?_⟩
  obtain ⟨tv, h1, h2⟩ := ty_of hK hI pv hk
  refine ⟨v, cv, tv, b, rfl, h2, .inl ⟨u, hu, hI.sub kk t b ?_ tv u h1 htu⟩, k _ T1 H1 ev1 r1 (.bl b)⟩
  simp only [isiL] at hb
  split at hb <;> (try cases hb) <;> assumption
/-- a tuple of classes -/
inductive ClsNs (X : Cx) (M : Nm) : List Expr → List Nat → List V → Prop
  | nil : ClsNs X M [] [] []
  | cons {e : Expr} {es : List Expr} {t : Nat} {ts : List Nat} {cv : V} {cvs : List V} : ClsN X M e t cv → ClsNs X M es ts cvs → starEach (e :: es) X.env = (false, eval e X.env) :: starEach es X.env → ClsNs X M (e :: es) (t :: ts) (cv :: cvs)
def tCs (cvs : List V) : TA := fun _ H Q => Q cvs H
theorem clsns_pa : ∀ {es : List Expr} {ts : List Nat} {cvs : List V}, ClsNs X M es ts cvs → PA X es (tCs cvs)
  | _, _, _, .nil => pa_nil
  | _, _, _, .cons h t s => PA.imp (pa_cons h.pe (clsns_pa t) s) fun σ H Q q => q
theorem clsns_kit {kk : Nat} {tv : Value} (hI : IsiOk X M B) (h1 : tyV M kk = some tv) : ∀ {es : List Expr} {ts : List Nat} {cvs : List V} {b : Bool}, ClsNs X M es ts cvs → isiL (B.sub kk) ts = some b → ∃ us, Paired ClsV cvs us ∧ PySem.W.kitAny X.K tv us = some b
  | _, _, _, b, .nil, h => by
    cases h
    exact ⟨[], .nil, rfl⟩
  | _, _, _, b, .cons hc t _, h => by
    obtain ⟨u, hu, htu⟩ := hc.cl
    simp only [isiL] at h
    split at h
    · rename_i q
      cases h
      have := hI.sub _ _ _ q tv u h1 htu
      have rest : ∀ {es : List Expr} {ts : List Nat} {cvs : List V}, ClsNs X M es ts cvs → ∃ us, Paired ClsV cvs us := by
        intro es ts cvs h
        induction h with
        | nil => exact ⟨[], .nil⟩
        | cons h _ _ ih => obtain ⟨us, ih⟩ := ih; obtain ⟨u, hu, _⟩ := h.cl; exact ⟨u :: us, .cons hu ih⟩
      obtain ⟨us, hus⟩ := rest t
      refine ⟨u :: us, .cons hu hus, ?_⟩
      simp only [PySem.W.kitAny, this]
    · rename_i q
      have := hI.sub _ _ _ q tv u h1 htu
      obtain ⟨us, hus, hk⟩ := clsns_kit hI h1 t h
      refine ⟨u :: us, .cons hu hus, ?_⟩
      simp only [PySem.W.kitAny, this]
      exact hk
    · cases h
theorem re_isiT {ts : List Nat} {cvs : List V} {kt : Nat} (hK : M.K = X.K) (hI : IsiOk X M B) (hg : Gl X "isinstance") (hm : X.mg "isinstance" = none) (hc : ClsNs X M es ts cvs) (ha : PE X a (RB M B φ sa)) (hs : noStar [a, .Tuple es kt tpos] = true) (hle : cvs.length ≤ sizeLine) :
    PE X (.Call (.Name "isinstance" p) [a, .Tuple es kt tpos] [] pos) (RE M B φ (.isi sa ts)) := by
  refine PE.imp (pe_callB call_isA hg hm (by kernel_rfl) (pa_cons ha (pa_cons (pe_tup (clsns_pa hc)) pa_nil (star_cons (noStar_tail hs))) (star_cons hs)) (by decide) (by decide) (star_cons hs) (star_any (noStar_tail hs))) fun σ H Q ⟨T, env, S, d, S1, r, e, k⟩ => ?_
  obtain ⟨x, kk, b, ex, hk, hb, rfl⟩ := isi_eq e
  refine ⟨T, env, S, x, S1, r, ex, fun v T1 H1 ev1 r1 pv => ⟨hle, fun q hq => ?_⟩⟩
  obtain ⟨ev2, r2, _⟩ := r1.laid (o := .tup cvs) hq
  obtain ⟨tv, h1, h2⟩ := ty_of hK hI (pv.ev ev2) hk
  obtain ⟨us, hus, hka⟩ := clsns_kit hI h1 hc hb
  exact ⟨v, .ref q, tv, b, rfl, h2, .inr ⟨q, cvs, us, rfl, upd_same, hus, hka⟩, k _ T1 _ (ev1.then ev2) r2 (.bl b)⟩
theorem pt_w {t : TT} (h : PW X a t) : PT X a t := ⟨fun p s σ H Q I q => h.run _ p s σ H Q I q⟩
theorem pw_andL (h : PT X a (RT M B φ sa)) : PW X (.BoolOp .And [a] pos) (RT M B φ sa) := pw_and1 h
theorem pw_orL (h : PT X a (RT M B φ sa)) : PW X (.BoolOp .Or [a] pos) (RT M B φ sa) := pw_or1 h
theorem rx_split (ho : PE X o (RB M B φ sa)) (he : PE X e (RB M B φ sb)) (hs : starEach [e] X.env = [(false, eval e X.env)]) (hbase : attributeBase o "split" X.env (eval o X.env) = eval o X.env) (hline : (apos.endLine == pos.line) = true) : PE X (.Call (.Attribute o "split" apos) [e] [] pos) (RX M B φ (.spl sa sb)) :=
  PE.imp (pe_split ho he hs hbase hline) fun σ H Q ⟨T, env, S, d, S1, r, ev, k⟩ => by
    simp only [evE] at ev
    obtain ⟨x, Sx, ex, ev'⟩ := bnd_eq ev
    obtain ⟨y, Sy, ey, ev''⟩ := bnd_eq ev'
    clear ev ev'
    cases x with
    | str s =>
      cases y with
      | str z =>
        dsimp only at ev''
        split at ev''
        · rename_i hc
          cases ev''
          refine ⟨T, env, S, _, Sx, r, ex, fun v T1 H1 ev1 r1 pv => ⟨⟨s, pv.str⟩, T1, env, Sx, _, _, r1, ey, fun u T2 H2 ev2 r2 pu => ⟨s, z, pv.str, by rw [pu.str], hc.1, hc.2, fun p hp => ?_⟩⟩⟩
          obtain ⟨ev3, r3, nd⟩ := new_lst r2 hp (all_rep_str (M := M) (T := T2) (H := H2) (Txt.split s z))
          exact k _ _ _ ((ev1.then ev2).then ev3) r3 (new_node rfl (ev_free (ev1.then ev2) hp) tag_same nd)
        · cases ev''
      | _ => cases ev''
    | _ => cases ev''
theorem re_pow {i j : Int} {n m : Nat} {p1 p2 : Pos} (h : 0 ≤ j ∧ j ≤ 1000000 ∧ i.natAbs < 2 ^ 64) : PE X (.BinOp (.Constant (.int i) n p1) .Pow (.Constant (.int j) m p2) pos) (RE M B φ (.cint (i ^ j.toNat))) :=
  PE.imp (pe_op op_pow (pe_int (X := X)) (pe_int (X := X))) fun σ H Q ⟨T, env, S, d, S1, r, e, k⟩ => by
    simp only [evE] at e
    cases e
    exact ⟨i, j, rfl, rfl, h, k _ T H .refl r (.int _)⟩
end
end RI
end

section
namespace RX
open PySem PySem.W PySem.Calls PySem.Spec PyProof.Rows
open Builtin Builtin.ObjectAttr

/-- own classes ahead of a tail of built-in ones -/
def refsT (tl : List Value) : List Value → Bool
  | .ref _ :: r => refsT tl r
  | l => l == tl
section
variable {tl : List Value}
theorem refsT_cases : ∀ l : List Value, refsT tl l = true → (∃ c r, l = .ref c :: r ∧ refsT tl r = true) ∨ l = tl := by
  intro l e
  cases l with
  | nil => exact .inr (beq_iff_eq.mp e)
  | cons a r => cases a <;> first | exact .inl ⟨_, _, rfl, e⟩ | exact .inr (beq_iff_eq.mp e)
theorem refsT_pass (hp : ∀ self, refuseLoop self "__setattr__" tl = pure ()) (hn : tl ≠ []) (self : Value) : ∀ l : List Value, refsT tl l = true → refuseLoop self "__setattr__" l = pure ()
  | [], e => by
    rcases refsT_cases [] e with ⟨c, r, q, _⟩ | q
    · cases q
    · exact absurd q.symm hn
  | a :: r, e => by
    rcases refsT_cases (a :: r) e with ⟨c, r', q, h⟩ | q
    · cases q
      rw [refuseLoop_ref]
      exact refsT_pass hp hn self r h
    · rw [q]
      exact hp self
theorem refsT_has (X : String) (hn : tl ≠ []) : ∀ l : List Value, refsT tl l = true → l.contains (.type X) = tl.contains (.type X)
  | [], e => by
    rcases refsT_cases [] e with ⟨c, r, q, _⟩ | q
    · cases q
    · exact absurd q.symm hn
  | a :: r, e => by
    rcases refsT_cases (a :: r) e with ⟨c, r', q, h⟩ | q
    · cases q
      rw [List.contains_cons, refsT_has X hn r h]
      rfl
    · rw [q]
end
abbrev xrec (C t : Addr) (d : Option Addr) : Obj := { cls := .ref C, dict := d, data := .fields #[.ref t, .none, .none, .none, .bool false, .none] }
/-- what the written part and the library say of an own exception class -/
structure XcF (K : Frag) (C : Addr) (B newId initId : String) (bmB : List Value) : Prop where
  FB : ExcBaseFacts B newId initId bmB
  KF : KxsFacts B initId
  cls : ∃ nm q N bs bm sn sub ab col dd k0 k1 k2 k3 k5, K.lookup C = some (excClassObj nm q C N bs bm true sn sub ab col dd k0 k1 k2 k3 k5 newId) ∧ (∀ X : String, bm.contains (.type X) = bmB.contains (.type X)) ∧ (∀ self, refuseLoop self "__setattr__" bm = pure ()) ∧ bm.isEmpty = false
  ob : bmB.contains (.type "object") = true
  sa : findIn K (.ref C) "__setattr__" = some (some (.builtin "object.__setattr__"))
  sup : ks_superIn K C C "__init__" = some (some (.builtin initId))
  subB : subIn K (.ref C) (.type B) = some true
  opq : nsIn K cStatics "thirdparty.any" = some none
section
variable {prog : Program} {w : World} {A : Around} {E : Value → Shared → Prop} {R : Result → Shared → Prop} {h : Heap} {g : Array GenState} {d : Drawn} {t : Nat} {os : OsState} {K : Frag} {C x : Addr} {B newId initId : String} {bmB : List Value}
/-- the wrapper called -/
theorem call_wrap (F : XcF K C B newId initId bmB) {u t0 : Addr} {rest : List Value} {Q : Value → Shared → Prop} (X : K.In h)
    (he : h.get? x = some (xrec C t0 none)) (hu : h.get? u = some (kxs_mw initId x)) (hrest : rest.length ≤ sizeLine)
    (hq : ∀ h' t1, (∀ b o, b ≠ x → h.get? b = some o → h'.get? b = some o) → h'.get? x = some (xrec C t1 none) → Q .none ⟨h', g, d, t, os⟩) : wpAny (model prog w) A (call (.ref u) rest) Q E ⟨h, g, d, t, os⟩ := by
  obtain ⟨nm, q, N, bs, bm, sn, sub, ab, col, dd, k0, k1, k2, k3, k5, hC, hbm, _, _⟩ := F.cls
  refine wpAny_call (codeAny_of_tree ?_)
  show wpAny _ A.in1 (callAny (.ref u) ⟨rest, []⟩) _ _ _
  simp only [callAny]
  refine wpAny_bind (wpAny_load hu ?_)
  have c1 : (Value.type "method-wrapper" == Value.type "method" || Value.type "method-wrapper" == Value.type "builtin_function_or_method" || Value.type "method-wrapper" == Value.type "method-wrapper") = true := by decide
  simp only [kxs_mw, c1, if_true]
  refine W.KFB.if_so (by decide) (wpAny_bind (check_bound_init F.FB.toExcCallFacts (X _ _ hC) he rfl (wpAny_bind (wpAny_pure (wpAny_pure ⟨plainId_quiet F.FB.init.plain _, codeAny_builtin F.FB.initEntry ?_⟩)))))
  exact exc_init_tree (cls := .ref C) (t0 := t0) (dv := none) (c2 := .none) (c3 := .none) (b4 := .bool false) he hrest fun h' k e' _ => hq h' _ k e'
/-- super().__init__(text) -/
theorem super_call (F : XcF K C B newId initId bmB) {body : List Stmt} {q : Str} {scope : Scope} {L f cda cc t0 : Addr} {p0 p1 pa pc pp : Pos} {tx : Str} {j : Nat} {fd : FuncData} {ar : Arg} {vs : Array Value} {file : Str} {tf : Tok} {oc ccl cl : Value} {od cdd cld : Option Addr} {osl ccs csl : Array (Option Value)} {m mg mb : Str → Option Value} {Q : Value → Shared → Prop}
    (X : K.In h) (hg : h.Ns mainGlobals mg) (hmg : mg "super" = none) (hb : h.Ns builtinsNs mb) (hmb : mb "super" = some (.type "super"))
    (lk : K.lookup f = some ⟨oc, od, .func fd, osl⟩) (hp : (fd.params.posonlyargs ++ fd.params.args).head? = some ar) (hns : h.Ns L m) (hv : m ar.arg = some (.ref x)) (he : h.get? x = some (xrec C t0 none))
    (hcode : K.lookup cda = some ⟨ccl, cdd, .fields vs, ccs⟩) (hvs : vs[2]? = some (.str file tf)) (hfile : ((prog.main.file : Str) == file) = true) (hcell : K.lookup cc = some ⟨cl, cld, .cell (some (.ref C)), csl⟩)
    (hks : scope.names.lookup ("super" : Str) = some .globalImplicit) (hkc : scope.names.lookup ("__class__" : Str) = some .free) (hka : scope.names.lookup ar.arg = some .local) (hk : scope.kind = .function)
    (htop : (prog.main.scope.names.lookup ("super" : Str)).isSome = false)
    {pl : Sem Bool} (hev : eval (.Call (.Attribute (.Call (.Name "super" p0) [] [] p1) "__init__" pa) [.Constant (.str tx) j pc] [] pp) (ksEnv q scope L f (.ref cda) cc) = (do
      let ov ← attributeBase (.Call (.Name "super" p0) [] [] p1) "__init__" (ksEnv q scope L f (.ref cda) cc) (eval (.Call (.Name "super" p0) [] [] p1) (ksEnv q scope L f (.ref cda) cc))
      standAt pa.atName
      let (f', first) ← holding [ov] (getMethod ov "__init__" pl)
      callWith pp f' first (backTo pp (starEach [.Constant (.str tx) j pc] (ksEnv q scope L f (.ref cda) cc))) []))
    (hq : ∀ h' tk t1, (∀ b o, b ≠ x → h.get? b = some o → h'.get? b = some o) → h'.get? x = some (xrec C t1 none) → Q .none ⟨h', g, d, tk, os⟩) :
    PySem.wpAt (model prog w) A (.func body (ksEnv q scope L f (.ref cda) cc)) (eval (.Call (.Attribute (.Call (.Name "super" p0) [] [] p1) "__init__" pa) [.Constant (.str tx) j pc] [] pp) (ksEnv q scope L f (.ref cda) cc)) Q E ⟨h, g, d, t, os⟩ := by
  obtain ⟨nm, qn, N, bs, bm, sn, sub, ab, col, dd, k0, k1, k2, k3, k5, hC, hbm, _, _⟩ := F.cls
  have hD1 := X _ _ hC
  have hcl : clsIn K C = some { name := nm, bases := bs, mro := .ref C :: bm, ns := N, qualname := qn, hasDict := true, slotNames := sn, subclasses := sub, abstract := ab, collection := col, hasDel := false } := by unfold clsIn; rw [hC] <;> rfl
  have hself : mroIn K C (.ref C) = some true := by
    unfold mroIn
    rw [hcl, Option.bind_some, if_neg (show ¬ (List.isEmpty (Value.ref C :: bm) = true) from Bool.false_ne_true), List.contains_cons]
    simp
  have hxC : x ≠ C := fun z => by
    rw [z] at he
    rw [hD1] at he
    have := congrArg (·.map (·.data)) he
    simp [excClassObj] at this
  refine ks_wpAt_MethodCall ?_ hev
  refine ks_wpAt_super_base (env := ksEnv q scope L f (.ref cda) cc) hks hkc rfl rfl (X _ _ lk) rfl hp rfl (X _ _ hcode) rfl hvs hfile htop ?_
  refine ks_loadName_global hk hks (loadGlobal_builtin (env := ksEnv q scope L f (.ref cda) cc) hg hmg hb hmb ⟨rfl, ?_⟩)
  refine wpAny_loadName_free hk hkc rfl ⟨_, X _ _ hcell, rfl⟩ (wpAny_loadName_local hk hka hns hv ?_)
  refine ks_wpAny_isType_cls hD1 rfl ⟨rfl, ks_wpAny_call_super hD1 rfl he rfl (fun c e => by cases e) (looks_mroIn X hself) fun h1 e1 kp1 => ?_⟩
  have X1 : K.In h1 := X.keeps kp1
  have he1 := kp1 _ _ he
  have IA : InstAt h1 x (xrec C t0 none) C none := ⟨he1, rfl, rfl, trivial⟩
  have hsup := F.sup
  unfold ks_superIn at hsup
  rw [hcl] at hsup
  refine kxs_getMethod F.KF e1 (looks_opaque X1 F.opq) (l₀ := .ref C :: bm) ((looks_clsIn X1 hcl).andThen .now) rfl X1 hsup (IA.type.andThen (looks_subIn X1 F.subB)) hxC (by decide) ?_
  refine kxs_callWith (i := initId) (x := x) rfl (evalArgs_plain ?_)
  refine spliced_cons (wpAny_Constant_str (k := j) (pos := pc) (spliced_nil ⟨Heap.get?_push_at rfl rfl, ?_⟩))
  have kp2 : ∀ b o, h1.get? b = some o → (h1.push (kxs_mw initId x)).get? b = some o := fun b o e => Heap.get?_push_of_some _ e
  refine call_wrap F (X1.keeps kp2) (kp2 _ _ he1) (Heap.get?_push_at rfl rfl) (by simp [sizeLine_eq]) fun h' t1 kp3 e3 => hq h' _ t1 (fun b o hb e => kp3 b o hb (kp2 b o (kp1 b o e))) e3
/-- the walk to the own dict -/
theorem store_walk {name : Str} {tk : Tok} {v : Value} {ox : Obj} {od : Option Obj} {cd : ClassData} (X : K.In h) (I : InstAt h x ox C od) (hcd : clsIn K C = some cd) (hps : ∀ self, refuseLoop self "__setattr__" cd.mro = pure ()) (hne : cd.mro.isEmpty = false) (hob : cd.mro.contains (.type "object") = true) (ha : findIn K (.ref C) name = some none)
    (hq : wpAny (model prog w) A.in1 (storeInOwnDict (.ref x) (.ref C) (.str name tk) name v false)
      (fun fin s' => match fin with | .done f => R (.ok f) s' | .again c' => c'.quiet = true ∧ codeAny (model prog w) A c' R s') (fun e s' => R (.error e) s') ⟨h, g, d, t, os⟩) :
    codeAny (model prog w) A (.call (.builtin "object.__setattr__") ⟨[.ref x, .str name tk, v], []⟩) R ⟨h, g, d, t, os⟩ := by
  have SF := F.store_object
  have isobj : Looks (model prog w) h (isInstance (.ref x) (.type "object")) true := I.type.andThen (looks_mroIn X (by unfold mroIn; rw [hcd, Option.bind_some, if_neg (by rw [hne]; decide), hob]))
  refine codeAny_call_builtin SF.slot.plain SF.entry (@check_slot (model prog w) _ _ ⟨h, g, d, t, os⟩ "object.__setattr__" "object" "__setattr__" (.ref x) [.str name tk, v] [] _ SF.kind SF.split isobj (SF.args (.ref x) (.str name tk) v) ?_)
  have lm : Looks (model prog w) h (mroOf (.ref C)) cd.mro := (looks_clsIn X hcd).andThen .now
  have ln : Looks (model prog w) h (storeTaker? none) none := .now
  rw [osa_eq, refuse_eq]
  refine wpAny_bind (wpAny_bind (I.type.at (wpAny_bind (lm.at ?_))))
  rw [hps]
  exact wpAny_pure (wpAny_bind (I.type.at (wpAny_bind ((looks_findIn X ha).at (wpAny_bind (ln.at hq))))))
theorem store_new {name : Str} {tk : Tok} {v : Value} {fv : Array Value} {cd : ClassData} (X : K.In h) (hx : h.get? x = some { cls := .ref C, data := .fields fv }) (hcd : clsIn K C = some cd) (hps : ∀ self, refuseLoop self "__setattr__" cd.mro = pure ()) (hne : cd.mro.isEmpty = false) (hob : cd.mro.contains (.type "object") = true)
    (hh : cd.hasDict = true) (ha : findIn K (.ref C) name = some none)
    (hq : ∀ h' tk' dx, (∀ b o, b ≠ x → h.get? b = some o → h'.get? b = some o) → h.objs.size ≤ dx → dx ≠ x → h'.get? x = some { cls := .ref C, dict := some dx, data := .fields fv } →
      h'.Ns1 dx (fun y => if y = name then some v else none) → R (.ok (.ret .none)) ⟨h', g, d, tk', os⟩) :
    codeAny (model prog w) A (.call (.builtin "object.__setattr__") ⟨[.ref x, .str name tk, v], []⟩) R ⟨h, g, d, t, os⟩ := by
  have I : InstAt h x { cls := .ref C, data := .fields fv } C none := ⟨hx, rfl, rfl, trivial⟩
  have hxs : x ≠ h.objs.size := Nat.ne_of_lt (Heap.lt_size hx)
  refine store_walk X I hcd hps hne hob ha ?_
  have hcls : Looks (model prog w) h (classData C) cd := looks_clsIn X hcd
  obtain ⟨nm, bs, mro, ns, qn, hd, sn, sb, ab, col, del⟩ := cd
  dsimp only at hh
  subst hh
  unfold storeInOwnDict ownDictForStores
  repeat (first | with_reducible refine HandSPX.store_in_new ?_ ?_ | with_reducible refine wpAny_loadPart_at hx ?_ | with_reducible refine hcls.at ?_ | wp_step)
  · exact ⟨_, #[], _, (Heap.get?_update_ne _ _ _ _ hxs.symm).trans (Heap.get?_push_at rfl rfl), rfl, fun e he => absurd he (by simp), fun _ => rfl⟩
  · intro h' tk' hn' hs
    have hx1 : (h.push { cls := .type "dict", data := .dict #[] }).get? x = some { cls := .ref C, data := .fields fv } := Heap.get?_push_of_some _ hx
    refine hq h' tk' h.objs.size (fun b o hb ho => ?_) (Nat.le_refl _) hxs.symm ?_ hn'
    · exact (hs.2 b (Nat.ne_of_lt (Heap.lt_size ho))).trans ((Heap.get?_update_ne _ _ _ _ hb).trans (Heap.get?_push_of_some _ ho))
    · exact (hs.2 x hxs).trans (Heap.get?_update_self _ hx1 rfl)
theorem store_old {name : Str} {tk : Tok} {v : Value} {dx : Addr} {fv : Array Value} {cd : ClassData} {m0 : Str → Option Value} {nl : List Str} (X : K.In h) (hx : h.get? x = some { cls := .ref C, dict := some dx, data := .fields fv }) (hns : h.Ns1 dx m0) (hw : Within m0 nl) (hz : nl.length ≤ 1000)
    (hcd : clsIn K C = some cd) (hps : ∀ self, refuseLoop self "__setattr__" cd.mro = pure ()) (hne : cd.mro.isEmpty = false) (hob : cd.mro.contains (.type "object") = true) (hh : cd.hasDict = true) (ha : findIn K (.ref C) name = some none)
    (hq : ∀ h' tk', (∀ b o, b ≠ dx → h.get? b = some o → h'.get? b = some o) → h'.Ns1 dx (fun y => if y = name then some v else m0 y) → R (.ok (.ret .none)) ⟨h', g, d, tk', os⟩) :
    codeAny (model prog w) A (.call (.builtin "object.__setattr__") ⟨[.ref x, .str name tk, v], []⟩) R ⟨h, g, d, t, os⟩ := by
  obtain ⟨oD, esD, epD, hoD, hdD, _⟩ := hns.count hw
  have I : InstAt h x { cls := .ref C, dict := some dx, data := .fields fv } C (some oD) := ⟨hx, rfl, rfl, hoD⟩
  refine store_walk X I hcd hps hne hob ha ?_
  have hcls : Looks (model prog w) h (classData C) cd := looks_clsIn X hcd
  obtain ⟨nm, bs, mro, ns, qn, hd, sn, sb, ab, col, del⟩ := cd
  dsimp only at hh
  subst hh
  unfold storeInOwnDict ownDictForStores
  repeat (first | with_reducible refine OEX.store_in_old hns hw hz ?_ | with_reducible refine wpAny_loadPart_at hx ?_ | with_reducible refine hcls.at ?_ | wp_step)
  intro h' tk' hn' hs
  exact hq h' tk' (fun b o hb ho => (hs.2 b hb).trans ho) hn'
end
end RX
end

section
namespace RX
open PySem PySem.W PySem.Calls PySem.Spec PyProof.Rows
open L2 (V HO Hp upd exo exd RelV RelO HOk Un)
section
variable {P : Program} {w : World} {A : Around} {E : Value → Shared → Prop} {R : Result → Shared → Prop} {h : Heap} {g : Array GenState} {d : Drawn} {t : Nat} {os : OsState} {K : Frag} {C x dx : Addr} {B newId initId : String} {bmB : List Value}
theorem XcF.data (F : XcF K C B newId initId bmB) : ∃ cd : ClassData, clsIn K C = some cd ∧ (∀ self, refuseLoop self "__setattr__" cd.mro = pure ()) ∧ cd.mro.isEmpty = false ∧ cd.mro.contains (.type "object") = true ∧ cd.hasDict = true := by
  obtain ⟨nm, qn, N, bs, bm, sn, sub, ab, col, dd, k0, k1, k2, k3, k5, hC, hbm, hps, hne⟩ := F.cls
  refine ⟨{ name := nm, bases := bs, mro := .ref C :: bm, ns := N, qualname := qn, hasDict := true, slotNames := sn, subclasses := sub, abstract := ab, collection := col, hasDel := false }, by unfold clsIn; rw [hC] <;> rfl, fun self => ?_, rfl, ?_, rfl⟩
  · show refuseLoop self "__setattr__" (.ref C :: bm) = pure ()
    rw [refuseLoop_ref]
    exact hps self
  · show (Value.ref C :: bm).contains (.type "object") = true
    rw [List.contains_cons, hbm, F.ob, Bool.or_true]
/-- self.f = u, the first -/
theorem set_first (F : XcF K C B newId initId bmB) (X : K.In h) {t1 : Addr} (hx : h.get? x = some (xrec C t1 none)) {name : Str} {u : Value} {Q : Unit → Shared → Prop} (ha : findIn K (.ref C) name = some none)
    (hq : ∀ h' tk dx, (∀ b o, b ≠ x → h.get? b = some o → h'.get? b = some o) → h.objs.size ≤ dx → dx ≠ x → h'.get? x = some (xrec C t1 (some dx)) → h'.Ns1 dx (fun y => if y = name then some u else none) → Q () ⟨h', g, d, tk, os⟩) :
    wpAny (model P w) A (setAttr (.ref x) name u) Q E ⟨h, g, d, t, os⟩ := by
  obtain ⟨cd, h1, h2, h3, h4, h5⟩ := F.data
  refine set_plain X (ox := xrec C t1 none) (od := none) ⟨hx, rfl, rfl, trivial⟩ F.sa (store_new X hx h1 h2 h3 h4 h5 ha fun h' tk dx k a b c e => hq h' tk dx k a b c e)
/-- a further one -/
theorem set_more (F : XcF K C B newId initId bmB) (X : K.In h) {t1 : Addr} (hx : h.get? x = some (xrec C t1 (some dx))) {m0 : Str → Option Value} {nl : List Str} (hns : h.Ns1 dx m0) (hw : Within m0 nl) (hz : nl.length ≤ 1000) {name : Str} {u : Value} {Q : Unit → Shared → Prop} (ha : findIn K (.ref C) name = some none)
    (hq : ∀ h' tk, (∀ b o, b ≠ dx → h.get? b = some o → h'.get? b = some o) → h'.Ns1 dx (fun y => if y = name then some u else m0 y) → Q () ⟨h', g, d, tk, os⟩) :
    wpAny (model P w) A (setAttr (.ref x) name u) Q E ⟨h, g, d, t, os⟩ := by
  obtain ⟨cd, h1, h2, h3, h4, h5⟩ := F.data
  obtain ⟨oD, _, _, hoD, _, _⟩ := hns.count hw
  refine set_plain X (ox := xrec C t1 (some dx)) (od := some oD) ⟨hx, rfl, rfl, hoD⟩ F.sa (store_old X hx hns hw hz h1 h2 h3 h4 h5 ha fun h' tk k e => hq h' tk k e)
/-- the end, for the layer -/
theorem init_end {fs : List Addr} {H : Hp} {h' : Heap} {t1 : Addr} {fl : List (Str × V)} {mA : Str → Option Value} (hok : HOk P w H h) (e : H x = some (exo x C none)) (k : ∀ b o, b ≠ x → h.get? b = some o → h'.get? b = some o) (hn : h.objs.size ≤ dx) (hne : dx ≠ x)
    (hx : h'.get? x = some (xrec C t1 (some dx))) (hd : h'.Ns1 dx mA) (rel : ∀ f, RelO (fl.lookup f) (mA f)) : Un fs [] H (upd (upd H dx (exd dx fl)) x (exo x C (some dx))) h h' ∧ HOk P w (upd (upd H dx (exd dx fl)) x (exo x C (some dx))) h' := by
  have hnd : H dx = none := hok.fresh hn
  have nd : ∀ {b : Addr} {o : Obj}, h.get? b = some o → b ≠ dx := fun {b o} q => Nat.ne_of_lt (Nat.lt_of_lt_of_le (Heap.lt_size q) hn)
  have na : ∀ {b : Addr}, H b = none → b ≠ x := fun {b} n z => by rw [z, e] at n; cases n
  refine ⟨⟨fun b o q n _ _ => k b o (na n) q, fun b o q n _ _ => ⟨o.slots, k b o (na n) q⟩, fun b o q n _ => by rw [L2.upd_ne (na n), L2.upd_ne (nd q)]; exact n, fun b o q _ => ?_, fun b xs q => ?_, fun b o v q => ?_, fun b ps q => ⟨#[], ?_⟩⟩, fun b o q => ?_⟩
  · by_cases hb : b = x
    · exact ⟨_, by rw [hb]; exact hx⟩
    · exact ⟨o, k b o hb q⟩
  · rw [L2.upd_ne (L2.at_ne e q L2.exo_tup), L2.upd_ne (L2.ne_of_none q hnd)]; exact q
  · rw [L2.upd_ne (L2.at_ne e q L2.exo_frz), L2.upd_ne (L2.ne_of_none q hnd)]; exact q
  · rw [L2.upd_ne (L2.at_ne e q L2.exo_tbl), L2.upd_ne (L2.ne_of_none q hnd), q]; simp
  · by_cases hb : b = x
    · subst hb
      rw [L2.upd_same] at q
      cases q
      exact L2.exo_ok hx
    · rw [L2.upd_ne hb] at q
      by_cases hd' : b = dx
      · subst hd'
        rw [L2.upd_same] at q
        cases q
        exact L2.exd_ok hd rel
      · rw [L2.upd_ne hd'] at q
        refine (hok b o q).stay (fun c v hc z => k c v ?_ z) (fun c hc => ?_) fun c xs hc => ?_
        · rcases hc with hc | hc
          · rw [hc]; exact hb
          · exact L2.at_ne e hc L2.exo_own
        · rw [L2.upd_ne (L2.at_ne e hc L2.exo_own), L2.upd_ne (L2.ne_of_none hc hnd)]; exact hc
        · rw [L2.upd_ne (L2.at_ne e hc L2.exo_tup), L2.upd_ne (L2.ne_of_none hc hnd)]; exact hc
/-- what the written part says of the function -/
structure InitF (P : Program) (K : Frag) (C f : Addr) (fd : FuncData) (name qual : Str) (params : Arguments) (body : List Stmt) (scope : Scope) (slf : Str) : Prop where
  ex : ∃ kV doc pm an cda ct cc oc od osl ccl cdd ccs vs file tf cl cld csl, fd = ksFn name qual params body scope .none kV doc pm an (.ref cda) ct cc ∧ K.lookup f = some ⟨oc, od, .func fd, osl⟩ ∧ codeIn K (.ref cda) qual = true ∧
    K.lookup cda = some ⟨ccl, cdd, .fields vs, ccs⟩ ∧ vs[2]? = some (.str file tf) ∧ ((P.main.file : Str) == file) = true ∧ K.lookup cc = some ⟨cl, cld, .cell (some (.ref C)), csl⟩
  ar : ∃ ar, (params.posonlyargs ++ params.args).head? = some ar ∧ ar.arg = slf
/-- what the scope says -/
structure ScF (P : Program) (scope : Scope) (ps : List Str) : Prop where
  hks : scope.names.lookup ("super" : Str) = some .globalImplicit
  hkc : scope.names.lookup ("__class__" : Str) = some .free
  hk : scope.kind = .function
  hco : scope.isCoroutine = false
  hgen : scope.isGenerator = false
  hcell : ∀ y ∈ scope.names, y.2 ≠ .cell
  par : ∀ y ∈ ps, scope.names.lookup y = some .local
  htop : (P.main.scope.names.lookup ("super" : Str)).isSome = false
/-- what it promises: the object with its own dict -/
def spXc (C : Addr) (mk : List V → List (Str × V)) (n : Nat) : L2.Sp := fun vs H Q _ => ∃ x ws, vs = .ref x :: ws ∧ ws.length = n ∧ H x = some (exo x C none) ∧ ∀ dx, H dx = none → dx ≠ x → Q .non (upd (upd H dx (exd dx (mk ws))) x (exo x C (some dx)))
/-- the name of a frame is looked up -/
theorem ld_loc {env : Env} {m : Str → Option Value} {y : Str} {pos : Pos} {v : Value} {M : Model} {s : Shared} {Q : Value → Shared → Prop} (hk : env.scope.kind = .function) (hl : env.kindOf y = some .local) (hn : s.heap.Ns env.locals m) (hv : m y = some v) (hd : (y == ("__debug__" : Str)) = false) (hq : Q v s) :
    wpAny M A (eval (.Name y pos) env) Q E s := wpAny_Name (wpAny_loadName_local hk hl hn hv hq) hd
end
end RX
end

section
namespace RX
open PySem PySem.W PySem.Calls PySem.Spec PyProof.Rows
open L2 (V HO Hp upd exo exd RelV RelO HOk Un)
section
variable {P : Program} {w : World} {name : Str} {params : Arguments} {K : Frag} {mg : Str → Option Value} {base : Heap} {CX : L2.CXT} {C f : Addr} {fd : FuncData} {qual slf pr fl tag tx : Str} {scope : Scope} {B newId initId : String} {bmB : List Value} {p0 p1 pa pc pp pe q0 q1 q2 q3 r0 r1 r2 r3 : Pos} {j j2 k : Nat}
abbrev sSuper (p0 p1 pa pc pp pe : Pos) (tx : Str) (j : Nat) : Stmt := .Expr (.Call (.Attribute (.Call (.Name "super" p0) [] [] p1) "__init__" pa) [.Constant (.str tx) j pc] [] pp) pe
abbrev sFld (slf fl pr : Str) (q0 q1 q2 q3 : Pos) : Stmt := .Assign [.Attribute (.Name slf q0) fl q1] (.Name pr q2) q3
abbrev sTag (slf tag : Str) (j2 : Nat) (r0 r1 r2 r3 : Pos) : Stmt := .Assign [.Attribute (.Name slf r0) "tag" r1] (.Constant (.str tag) j2 r2) r3
def mk1 (fl tag : Str) : List V → List (Str × V)
  | [y] => [("tag", .str tag), (fl, y)]
  | _ => []
def mk0 (tag : Str) : List V → List (Str × V)
  | [] => [("tag", .str tag)]
  | _ => []
/-- the call of a method on super(), on one line -/
def EvOk (p0 p1 pa pc pp : Pos) (tx : Str) (j : Nat) : Prop := ∃ pl : Env → Sem Bool, ∀ q scope L f cd cc, eval (.Call (.Attribute (.Call (.Name "super" p0) [] [] p1) "__init__" pa) [.Constant (.str tx) j pc] [] pp) (ksEnv q scope L f cd cc) = (do
      let ov ← attributeBase (.Call (.Name "super" p0) [] [] p1) "__init__" (ksEnv q scope L f cd cc) (eval (.Call (.Name "super" p0) [] [] p1) (ksEnv q scope L f cd cc))
      standAt pa.atName
      let (f', first) ← holding [ov] (getMethod ov "__init__" (pl (ksEnv q scope L f cd cc)))
      callWith pp f' first (backTo pp (starEach [.Constant (.str tx) j pc] (ksEnv q scope L f cd cc))) [])
theorem init1_ok (F : XcF K C B newId initId bmB) (I : InitF P K C f fd name qual params [sSuper p0 p1 pa pc pp pe tx j, sFld slf fl pr q0 q1 q2 q3, sTag slf tag j2 r0 r1 r2 r3] scope slf) (S : ScF P scope [slf, pr]) (hev : EvOk p0 p1 pa pc pp tx j)
    (hmg : mg "super" = none) (hne : slf ≠ pr) (hd1 : (slf == ("__debug__" : Str)) = false) (hd2 : (pr == ("__debug__" : Str)) = false) (ha : findIn K (.ref C) fl = some none) (ht : findIn K (.ref C) "tag" = some none) :
    L2.FnOk P w K mg base CX (k + 1) f fd [slf, pr] (spXc C (mk1 fl tag) 1) := by
  refine ⟨fun vs H Q E ⟨x, ws, e, l, _⟩ => by rw [e, List.length_cons, l]; rfl, fun A outer s H args us vs Q E hr e0 hb r hsp => ?_⟩
  obtain ⟨x, ws, rfl, hlen, e, hQ⟩ := hsp
  obtain ⟨y, rfl⟩ := List.length_eq_one_iff.mp hlen
  obtain ⟨ux, uy, rfl, rx, ry⟩ : ∃ ux uy, us = [ux, uy] ∧ RelV (V.ref x) ux ∧ RelV y uy := L2.vals2 r
  obtain rfl : ux = Value.ref x := rx
  obtain ⟨kV, doc, pm, an, cda, ct, cc, oc, od, osl, ccl, cdd, ccs, vs, file, tf, cl, cld, csl, rfl, lk, hcd, hcode, hvs, hfile, hcell⟩ := I.ex
  obtain ⟨ar, hp, har⟩ := I.ar
  subst har
  have X : K.In s.heap := e0.mod.kin.keeps fun b o z => (e0.bs b o z).1
  have lim : s.heap.NoLimit := e0.mod.nolimit.keeps fun b o z => (e0.bs b o z).1
  have hgl : s.heap.Ns mainGlobals mg := e0.mod.glob.keeps fun b o z => (e0.bs b o z).1
  obtain ⟨mb, hbl, hmb⟩ := e0.mod.blt
  have hbl := hbl.keeps fun b o z => (e0.bs b o z).1
  obtain ⟨t0, he⟩ := L2.exo_at e0.hok e
  refine ks_codeAny_call_defAt hr.depth (X _ _ lk) rfl lim (codeRec_of X hcd) rfl hb S.hcell (fun z hz => ?_) (fun h0 hns k0 => ?_) S.hco S.hgen S.hk
  · obtain ⟨z1, z2⟩ := z
    exact S.par _ (List.of_mem_zip hz).1
  obtain ⟨hp0, g, d, t, os⟩ := s
  dsimp only at *
  obtain ⟨pl, hev⟩ := hev
  have l1 : scope.names.lookup ar.arg = some .local := S.par _ (by simp)
  have l2 : scope.names.lookup pr = some .local := S.par _ (by simp)
  have v1 : ([(ar.arg, Value.ref x), (pr, uy)] : List (Str × Value)).reverse.lookup ar.arg = some (.ref x) := by
    have q : (ar.arg == pr) = false := by simpa using hne
    simp [List.lookup, q]
  have v2 : ([(ar.arg, Value.ref x), (pr, uy)] : List (Str × Value)).reverse.lookup pr = some uy := by simp [List.lookup]
  have hLx : hp0.objs.size ≠ x := fun z => Nat.lt_irrefl _ (by
    have := Heap.lt_size he
    rw [← z] at this
    exact this)
  have hint : ∀ L, interactive (callEnv (ksFn name qual params [sSuper p0 p1 pa pc pp pe tx j, sFld ar.arg fl pr q0 q1 q2 q3, sTag ar.arg tag j2 r0 r1 r2 r3] scope .none kV doc pm an (.ref cda) ct cc) L f) = false := fun L => by
    unfold interactive
    show (scope.kind == _ && _) = false
    rw [S.hk]
    rfl
  have nx : ∀ {b : Addr} {o : Obj}, K.lookup b = some o → b ≠ x := fun {b o} z q => by
    have := (e0.bs b o (e0.mod.kin b o z)).2
    rw [q, e] at this
    cases this
  refine ks_wpAt_execs_cons (ks_wpAt_Expr_any (super_call F (X.keeps k0) (hgl.keeps k0) hmg (hbl.keeps k0) ((hmb "super" (by decide)).trans (by first | boot_by_name | rfl | kernel_rfl)) lk hp hns v1 (k0 _ _ he) hcode hvs hfile hcell S.hks S.hkc l1 S.hk S.htop (hev _ _ _ _ _ _) fun h1 tk1 t1 k1 e1 => ?_) (hi := hint _))
  refine wpAt_of_wpAny (wpAny_execs_cons ?_)
  have X1 : K.In h1 := fun b o z => k1 b o (nx z) (k0 b o (X b o z))
  have hns1 : h1.Ns hp0.objs.size (fun z => ([(ar.arg, Value.ref x), (pr, uy)] : List (Str × Value)).reverse.lookup z) := by
    obtain ⟨o, es, ep, z1, z2⟩ := hns
    exact ⟨o, es, ep, k1 _ _ hLx z1, z2⟩
  refine plainObj_wpAny_Assign_Attribute (ld_loc S.hk l2 hns1 v2 hd2 (ld_loc S.hk l1 hns1 v1 hd1 ?_))
  refine set_first F X1 e1 ha fun h2 tk2 dx k2 a2 b2 e2 n2 => ?_
  refine wpAny_execs_cons ?_
  have X2 : K.In h2 := fun b o z => k2 b o (nx z) (X1 b o z)
  have hns2 : h2.Ns hp0.objs.size (fun z => ([(ar.arg, Value.ref x), (pr, uy)] : List (Str × Value)).reverse.lookup z) := by
    obtain ⟨o, es, ep, z1, z2⟩ := hns1
    exact ⟨o, es, ep, k2 _ _ hLx z1, z2⟩
  refine plainObj_wpAny_Assign_Attribute (wpAny_Constant_str (k := j2) (pos := r2) (ld_loc S.hk l1 hns2 v1 hd1 ?_))
  refine set_more F X2 e2 n2 (nl := [fl]) (fun z hz => ?_) (by simp) ht fun h3 tk3 k3 n3 => ?_
  · by_cases q : z = fl
    · rw [q]; exact List.mem_singleton_self _
    · exact absurd (if_neg q) hz
  refine wpAny_execs_nil ?_
  have hL1 : hp0.objs.size < h1.objs.size := by
    obtain ⟨o, es, ep, z1, z2⟩ := hns1
    exact Heap.lt_size z1
  have nd : ∀ {b o}, h1.get? b = some o → b ≠ dx := fun {b o} z => Nat.ne_of_lt (Nat.lt_of_lt_of_le (Heap.lt_size z) a2)
  have kk : ∀ b o, b ≠ x → hp0.get? b = some o → h3.get? b = some o := fun b o hb z => by
    have z1 := k1 b o hb (k0 b o z)
    exact k3 b o (nd z1) (k2 b o hb z1)
  have hdx : dx ≠ x := b2
  obtain ⟨un, ok⟩ := init_end (fs := L2.frs outer) e0.hok e kk (Nat.le_of_lt (Nat.lt_of_lt_of_le hL1 a2)) hdx (k3 _ _ (fun q => hdx q.symm) e2) n3 (fl := mk1 fl tag [y]) (L2.relO_put (show RelV (V.str tag) _ from ⟨_, rfl⟩) (L2.relO_put (fs := []) ry fun _ => True.intro))
  exact ⟨.non, _, rfl, e0.bare, un, ok, rfl, hQ dx (e0.hok.fresh (Nat.le_of_lt (Nat.lt_of_lt_of_le hL1 a2))) hdx⟩
theorem init0_ok (F : XcF K C B newId initId bmB) (I : InitF P K C f fd name qual params [sSuper p0 p1 pa pc pp pe tx j, sTag slf tag j2 r0 r1 r2 r3] scope slf) (S : ScF P scope [slf]) (hev : EvOk p0 p1 pa pc pp tx j)
    (hmg : mg "super" = none) (hd1 : (slf == ("__debug__" : Str)) = false) (ht : findIn K (.ref C) "tag" = some none) :
    L2.FnOk P w K mg base CX (k + 1) f fd [slf] (spXc C (mk0 tag) 0) := by
  refine ⟨fun vs H Q E ⟨x, ws, e, l, _⟩ => by rw [e, List.length_cons, l]; rfl, fun A outer s H args us vs Q E hr e0 hb r hsp => ?_⟩
  obtain ⟨x, ws, rfl, hlen, e, hQ⟩ := hsp
  obtain rfl := List.length_eq_zero_iff.mp hlen
  obtain ⟨ux, rfl, rx⟩ : ∃ ux, us = [ux] ∧ RelV (V.ref x) ux := by
    cases r with
    | cons rx r => cases r; exact ⟨_, rfl, rx⟩
  obtain rfl : ux = Value.ref x := rx
  obtain ⟨kV, doc, pm, an, cda, ct, cc, oc, od, osl, ccl, cdd, ccs, vs, file, tf, cl, cld, csl, rfl, lk, hcd, hcode, hvs, hfile, hcell⟩ := I.ex
  obtain ⟨ar, hp, har⟩ := I.ar
  subst har
  have X : K.In s.heap := e0.mod.kin.keeps fun b o z => (e0.bs b o z).1
  have lim : s.heap.NoLimit := e0.mod.nolimit.keeps fun b o z => (e0.bs b o z).1
  have hgl : s.heap.Ns mainGlobals mg := e0.mod.glob.keeps fun b o z => (e0.bs b o z).1
  obtain ⟨mb, hbl, hmb⟩ := e0.mod.blt
  have hbl := hbl.keeps fun b o z => (e0.bs b o z).1
  obtain ⟨t0, he⟩ := L2.exo_at e0.hok e
  refine ks_codeAny_call_defAt hr.depth (X _ _ lk) rfl lim (codeRec_of X hcd) rfl hb S.hcell (fun z hz => ?_) (fun h0 hns k0 => ?_) S.hco S.hgen S.hk
  · obtain ⟨z1, z2⟩ := z
    exact S.par _ (List.of_mem_zip hz).1
  obtain ⟨hp0, g, d, t, os⟩ := s
  dsimp only at *
  obtain ⟨pl, hev⟩ := hev
  have l1 : scope.names.lookup ar.arg = some .local := S.par _ (by simp)
  have v1 : ([(ar.arg, Value.ref x)] : List (Str × Value)).reverse.lookup ar.arg = some (.ref x) := by simp [List.lookup]
  have hLx : hp0.objs.size ≠ x := fun z => Nat.lt_irrefl _ (by
    have := Heap.lt_size he
    rw [← z] at this
    exact this)
  have hint : ∀ L, interactive (callEnv (ksFn name qual params [sSuper p0 p1 pa pc pp pe tx j, sTag ar.arg tag j2 r0 r1 r2 r3] scope .none kV doc pm an (.ref cda) ct cc) L f) = false := fun L => by
    unfold interactive
    show (scope.kind == _ && _) = false
    rw [S.hk]
    rfl
  have nx : ∀ {b : Addr} {o : Obj}, K.lookup b = some o → b ≠ x := fun {b o} z q => by
    have := (e0.bs b o (e0.mod.kin b o z)).2
    rw [q, e] at this
    cases this
  refine ks_wpAt_execs_cons (ks_wpAt_Expr_any (super_call F (X.keeps k0) (hgl.keeps k0) hmg (hbl.keeps k0) ((hmb "super" (by decide)).trans (by first | boot_by_name | rfl | kernel_rfl)) lk hp hns v1 (k0 _ _ he) hcode hvs hfile hcell S.hks S.hkc l1 S.hk S.htop (hev _ _ _ _ _ _) fun h1 tk1 t1 k1 e1 => ?_) (hi := hint _))
  refine wpAt_of_wpAny (wpAny_execs_cons ?_)
  have X1 : K.In h1 := fun b o z => k1 b o (nx z) (k0 b o (X b o z))
  have hns1 : h1.Ns hp0.objs.size (fun z => ([(ar.arg, Value.ref x)] : List (Str × Value)).reverse.lookup z) := by
    obtain ⟨o, es, ep, z1, z2⟩ := hns
    exact ⟨o, es, ep, k1 _ _ hLx z1, z2⟩
  refine plainObj_wpAny_Assign_Attribute (wpAny_Constant_str (k := j2) (pos := r2) (ld_loc S.hk l1 hns1 v1 hd1 ?_))
  refine set_first F X1 e1 ht fun h2 tk2 dx k2 a2 b2 e2 n2 => ?_
  refine wpAny_execs_nil ?_
  have hL1 : hp0.objs.size < h1.objs.size := by
    obtain ⟨o, es, ep, z1, z2⟩ := hns1
    exact Heap.lt_size z1
  have kk : ∀ b o, b ≠ x → hp0.get? b = some o → h2.get? b = some o := fun b o hb z => k2 b o hb (k1 b o hb (k0 b o z))
  have hdx : dx ≠ x := b2
  obtain ⟨un, ok⟩ := init_end (fs := L2.frs outer) e0.hok e kk (Nat.le_of_lt (Nat.lt_of_lt_of_le hL1 a2)) hdx e2 n2 (fl := mk0 tag []) (L2.relO_put (fs := []) (show RelV (V.str tag) _ from ⟨_, rfl⟩) fun _ => True.intro)
  exact ⟨.non, _, rfl, e0.bare, un, ok, rfl, hQ dx (e0.hok.fresh (Nat.le_of_lt (Nat.lt_of_lt_of_le hL1 a2))) hdx⟩
end
end RX
end

section
namespace RI
open PySem PySem.Spec L2 RX
open PySem.W (Frag)
def tMkX (C : Addr) (sp : Sp) (ta : TA) : TE := fun σ H Q => ta σ H fun vs H1 => vs.length ≤ 1000 ∧ ∀ a, H1 a = none → sp (.ref a :: vs) (upd H1 a (exo a C none)) (fun v H2 => v = .non ∧ Q (.ref a) H2) (fun _ _ _ => False)
section
variable {X : Cx} {M : Nm} {B : Tb} {φ : Phi} {e : Expr} {es : List Expr} {ta : TA} {x : Str} {p pos : Pos} {C fI : Addr} {k : Nat} {fd : FuncData} {ps : List Str} {sp : Sp} {Bn newId initId : String} {bmB : List Value} {ss : List SE} {CX : CXT}
theorem run_mkx (F : XcF X.K C Bn newId initId bmB) (iC : PySem.W.findIn X.K (.ref C) "__init__" = some (some (.ref fI))) (tI : PySem.W.typeIn X.K (.ref fI) = some (.type "function")) (F1 : FnOk X.prog X.w X.K X.mg X.base CX k fI fd ps sp) (hr : Room (k + 1) X.A)
    (hb : Binds X.K fd ps []) (hx : Passes CX X (fun _ _ _ => False)) {pins : List (Addr × Obj)} {σ : L2.St} {H : Hp} {s : Shared} {us : List Value} {vs : List V} {Q : VK} (I : Inv X pins σ H s) (r : Vals vs us) (hz : vs.length ≤ 1000)
    (q : ∀ a, H a = none → sp (.ref a :: vs) (upd H a (exo a C none)) (fun v H2 => v = .non ∧ Q (.ref a) H2) (fun _ _ _ => False)) : wpAny (model X.prog X.w) X.A (call (.ref C) us) (EP X pins σ Q) X.xe s := by
  obtain ⟨nm, qn, N, bs, bm, sn, sub, ab, col, dd, k0, k1, k2, k3, k5, hC, hbm, _, _⟩ := F.cls
  obtain ⟨hp, g, dr, tk, os⟩ := s
  have hsz : hp.objs.size ≤ hp.objs.size + 1 := Nat.le_succ _
  have hq := q (hp.objs.size + 1) (I.hok.fresh hsz)
  have kk : ∀ b o, hp.get? b = some o → ((hp.push (PySem.W.kdv_tup us)).push (PySem.HandSPX.excO C hp.objs.size)).get? b = some o := fun b o z => Heap.get?_push_of_some _ (Heap.get?_push_of_some _ z)
  have hget : ((hp.push (PySem.W.kdv_tup us)).push (PySem.HandSPX.excO C hp.objs.size)).get? (hp.objs.size + 1) = some (PySem.HandSPX.excO C hp.objs.size) := by heap_get
  have I2 : Inv X pins σ (upd H (hp.objs.size + 1) (exo (hp.objs.size + 1) C none)) ⟨(hp.push (PySem.W.kdv_tup us)).push (PySem.HandSPX.excO C hp.objs.size), g, dr, tk, os⟩ :=
    I.laid (t' := tk) (a := hp.objs.size + 1) (o := exo (hp.objs.size + 1) C none) (h' := (hp.push (PySem.W.kdv_tup us)).push (PySem.HandSPX.excO C hp.objs.size)) kk hsz (exo_ok hget)
  have r2 : Vals (V.ref (hp.objs.size + 1) :: vs) (Value.ref (hp.objs.size + 1) :: us ++ []) := by rw [List.append_nil]; exact .cons rfl r
  have hl : (Value.ref (hp.objs.size + 1) :: us ++ []).length = ps.length := by
    have z := r2.length
    rw [F1.len _ _ _ _ hq] at z
    exact z.symm
  have hus : us.length ≤ sizeLine := by
    rw [← Paired.length r, sizeLine_eq]
    omega
  refine wpAny_call (PySem.HandSPX.call_own F.FB hbm (I.kIn _ _ hC) (PySem.W.looks_findIn I.kIn iC) (fun self => PySem.W.bind_fn I.kIn self tI) hus
    (codeAny_mono (F1.run _ X.stack _ _ ⟨Value.ref (hp.objs.size + 1) :: us, []⟩ (Value.ref (hp.objs.size + 1) :: us ++ []) _ _ (fun _ _ _ => False) (hr.make C us []) (I2.env0.make C us []) (hb _ (Value.ref (hp.objs.size + 1) :: us) I2.kIn hl) r2 hq) fun rs s' hq' => ?_))
  cases rs with
  | error er => exact hx pins σ _ _ er s' I2 hq'
  | ok fl =>
    cases fl with
    | ret u =>
      obtain ⟨v, H', J, rv, ev, q2⟩ := I2.after hq'
      subst ev
      exact ⟨rv, .ref (hp.objs.size + 1), H', J, rfl, q2⟩
    | next => exact False.elim hq'
    | brk => exact False.elim hq'
    | cont => exact False.elim hq'
theorem pe_mkx (F : XcF X.K C Bn newId initId bmB) (iC : PySem.W.findIn X.K (.ref C) "__init__" = some (some (.ref fI))) (tI : PySem.W.typeIn X.K (.ref fI) = some (.type "function")) (kC : PySem.W.keepIn X.K (.ref C) = true) (F1 : FnOk X.prog X.w X.K X.mg X.base CX k fI fd ps sp) (hr : Room (k + 1) X.A)
    (hb : Binds X.K fd ps []) (hx : Passes CX X (fun _ _ _ => False)) (hg : Gl X x) (hm : X.mg x = some (.ref C)) (ha : PA X (e :: es) ta) (hdb : (x == ("__debug__" : Str)) = false) (hs : noStar (e :: es) = true) : PE X (.Call (.Name x p) (e :: es) [] pos) (tMkX C sp ta) := by
  refine ⟨fun pins s σ H Q I h => ?_⟩
  refine wpAny_Call_Name_kw (ld_glob I hg hm ?_ hdb)
  refine PySem.W.callWith_K (h₀ := X.base) I.ok.mod.kin kC (thn (ha.run pos pins s σ H _ I h) fun us s1 ⟨vs, H1, I1, r1, hz, q1⟩ => ⟨I1.kIn, ?_⟩) (star_cons hs) (star_any (noStar_tail hs))
  exact run_mkx F iC tI F1 hr hb hx I1 r1 hz q1
theorem pe_mkx0 (F : XcF X.K C Bn newId initId bmB) (iC : PySem.W.findIn X.K (.ref C) "__init__" = some (some (.ref fI))) (tI : PySem.W.typeIn X.K (.ref fI) = some (.type "function")) (kC : PySem.W.keepIn X.K (.ref C) = true) (F1 : FnOk X.prog X.w X.K X.mg X.base CX k fI fd ps sp) (hr : Room (k + 1) X.A)
    (hb : Binds X.K fd ps []) (hx : Passes CX X (fun _ _ _ => False)) (hg : Gl X x) (hm : X.mg x = some (.ref C)) (hdb : (x == ("__debug__" : Str)) = false) : PE X (.Call (.Name x p) [] [] pos) (tMkX C sp tNil) := by
  refine ⟨fun pins s σ H Q I h => ?_⟩
  refine wpAny_Call_Name_kw (ld_glob I hg hm ?_ hdb)
  obtain ⟨hz, q1⟩ := h
  exact PySem.W.callWith_K0 I.kIn kC (run_mkx F iC tI F1 hr hb hx I .nil hz q1)
/-- what mk lays, by data -/
def MkIs (M : Nm) (B : Tb) (c n : Nat) (mk : List V → List (Str × V)) : Prop := ∀ (T : Tg) (H : Hp) (vs : List V) (ds : List D) (fs : List (Nat × D)), RepAll M T H vs ds → B.xin c ds = some fs → vs.length = n ∧ (mk vs).map Prod.fst = fs.map (fun p => M.fn p.1) ∧ RepAll M T H ((mk vs).map Prod.snd) (fs.map Prod.snd)
theorem mkx_read {c n : Nat} {mk : List V → List (Str × V)} (hc : M.CX c = some C) (hmk : MkIs M B c n mk) (hn : n ≤ 1000) {σ : L2.St} {H : Hp} {Q : VK} (h : RE M B φ (.mkx c ss) σ H Q) : tMkX C (spXc C mk n) (RAs M B φ ss) σ H Q := by
  obtain ⟨T, env, S, d, S1, r, e, k⟩ := h
  simp only [evE] at e
  obtain ⟨ds, Sx, ex, e⟩ := bnd_eq e
  obtain ⟨e1, hS⟩ := lift_some e
  subst hS
  cases q : B.xin c ds with
  | none => rw [q] at e1; cases e1
  | some fs =>
    rw [q] at e1
    cases e1
    refine ⟨T, env, S, ds, Sx, r, ex, fun vs T1 H1 ev1 r1 ps => ?_⟩
    obtain ⟨hl, hk, hr⟩ := hmk T1 H1 vs ds fs ps q
    refine ⟨by omega, fun a hna => ⟨a, vs, rfl, hl, upd_same, fun dx hdx hne => ⟨rfl, ?_⟩⟩⟩
    have hd0 : H1 dx = none := by rw [upd_ne hne] at hdx; exact hdx
    have eu : upd (upd (upd H1 a (exo a C none)) dx (exd dx (mk vs))) a (exo a C (some dx)) = upd (upd H1 dx (exd dx (mk vs))) a (exo a C (some dx)) := by
      funext b
      by_cases hb : b = a
      · rw [hb, upd_same, upd_same]
      · rw [upd_ne hb, upd_ne hb]
        by_cases hd : b = dx
        · rw [hd, upd_same, upd_same]
        · rw [upd_ne hd, upd_ne hd, upd_ne hb]
    rw [eu]
    obtain ⟨ev2, r2, n2⟩ := r1.laid (o := exd dx (mk vs)) hd0
    have hna2 : upd H1 dx (exd dx (mk vs)) a = none := by rw [upd_ne hne.symm]; exact hna
    obtain ⟨ev3, r3, n3⟩ := r2.laid (o := exo a C (some dx)) hna2
    refine k _ T1 _ ((ev1.then ev2).then ev3) r3 (.exc upd_same ?_ n3 n2 hc hk ((hr.ev ev2).ev ev3))
    rw [upd_ne hne]
    exact upd_same
theorem re_mkx {c n : Nat} {mk : List V → List (Str × V)} (hc : M.CX c = some C) (hmk : MkIs M B c n mk) (hn : n ≤ 1000) (F : XcF X.K C Bn newId initId bmB) (iC : PySem.W.findIn X.K (.ref C) "__init__" = some (some (.ref fI))) (tI : PySem.W.typeIn X.K (.ref fI) = some (.type "function")) (kC : PySem.W.keepIn X.K (.ref C) = true)
    (F1 : FnOk X.prog X.w X.K X.mg X.base CX k fI fd ps (spXc C mk n)) (hr : Room (k + 1) X.A) (hb : Binds X.K fd ps []) (hx : Passes CX X (fun _ _ _ => False)) (hg : Gl X x) (hm : X.mg x = some (.ref C)) (ha : PA X (e :: es) (RAs M B φ ss)) (hdb : (x == ("__debug__" : Str)) = false) (hs : noStar (e :: es) = true) :
    PE X (.Call (.Name x p) (e :: es) [] pos) (RE M B φ (.mkx c ss)) := PE.imp (pe_mkx F iC tI kC F1 hr hb hx hg hm ha hdb hs) fun σ H Q q => mkx_read hc hmk hn q
theorem re_mkx0 {c : Nat} {mk : List V → List (Str × V)} (hc : M.CX c = some C) (hmk : MkIs M B c 0 mk) (F : XcF X.K C Bn newId initId bmB) (iC : PySem.W.findIn X.K (.ref C) "__init__" = some (some (.ref fI))) (tI : PySem.W.typeIn X.K (.ref fI) = some (.type "function")) (kC : PySem.W.keepIn X.K (.ref C) = true)
    (F1 : FnOk X.prog X.w X.K X.mg X.base CX k fI fd ps (spXc C mk 0)) (hr : Room (k + 1) X.A) (hb : Binds X.K fd ps []) (hx : Passes CX X (fun _ _ _ => False)) (hg : Gl X x) (hm : X.mg x = some (.ref C)) (hdb : (x == ("__debug__" : Str)) = false) :
    PE X (.Call (.Name x p) [] [] pos) (RE M B φ (.mkx c [])) := PE.imp (pe_mkx0 F iC tI kC F1 hr hb hx hg hm hdb) fun σ H Q q => by
  obtain ⟨T, env, S, ds, S1, r, e, k⟩ := mkx_read hc hmk (by decide) q
  simp only [evEs] at e
  cases e
  exact k [] T H .refl r .nil
end
end RI
end

section
namespace RI
open PySem PySem.Spec L2
open PyProof.Rows (envOfC)
section
variable {M : Nm} {B : Tb} {T : Tg} {H : Hp} {S : Store} {vs : List V} {ds : List D} {N : List Str}
theorem start_rel (r : Rel M T [] H [] S) (ra : RepAll M T H vs ds) (hl : vs.length ≤ N.length) : Rel M T (L2.start N vs) H (startE N.length ds) S := by
  refine ⟨by unfold L2.start startE; simp [ra.length], fun i => ?_, r.tg, r.st⟩
  unfold L2.start startE
  by_cases hi : i < ds.length
  · have hv : i < vs.length := by rw [ra.length]; exact hi
    rw [List.getElem?_append_left (by simpa using hv), List.getElem?_append_left (by simpa using hi), List.getElem?_map, List.getElem?_map]
    obtain ⟨v, h1, h2⟩ := ra.get (List.getElem?_eq_getElem hi)
    rw [h1, List.getElem?_eq_getElem hi]
    exact ⟨v, rfl, h2⟩
  · rw [List.getElem?_append_right (l₁ := ds.map Slot.frz) (by simp; omega), List.getElem?_replicate]
    split <;> trivial
end
section
variable {P : Program} {w : World} {K : PySem.W.Frag} {mg : Str → Option Value} {base : Heap} {M : Nm} {B : Tb} {x qual : Str} {params : Arguments} {body : List Stmt} {scope : Scope} {fa : Addr} {fd : FuncData} {N ps : List Str} {fn : Fn} {id n k : Nat} {dvs : List V} {kws : List (Str × V)}
theorem fn_zero (hps : npar B id = ps.length) : FnOk P w K mg base CX0 k fa fd ps (spF M B (evC B 0) id) :=
  ⟨fun vs H Q E h => h.1.trans hps, fun A outer s H args us vs Q E _ _ _ _ h => by obtain ⟨_, T, S, ds, d, S1, _, _, _, e, _⟩ := h; unfold evC at e; cases e⟩
theorem fn_okR (F : FunD K x qual params body scope dvs kws fa fd) (Sc : FnScope N ps scope) (hfn : B.fn id = some fn) (hn : fn.n = N.length) (hps : fn.ps = ps.length) (hle : ps.length ≤ N.length) (hcls : fn.cls = none)
    (hbody : ∀ (cdv : Value) (A : Around) (outer : List Env) (s : Shared) (H : Hp) (E : XK), Room (2 * n + 3) (A.deeper (envOfC qual scope s.heap.objs.size fa cdv)) → PSs (cxOf CX0 P w K mg base N qual scope fa cdv A outer s H E).nox body (RSt M (evSs B (evC B n) fn.body))) :
    FnOk P w K mg base CX0 (2 * (n + 1) + 2) fa fd ps (spF M B (evC B (n + 1)) id) := by
  have hnp : npar B id = ps.length := by unfold npar; rw [hfn]; exact hps
  refine F.ok (k := 2 * n + 3) Sc (fun vs H Q E h => h.1.trans hnp) (fun cdv A outer s H vs Q E hr hsp => ⟨_, PSs.nox (hbody cdv A outer s H E hr), ?_⟩)
  obtain ⟨hl, T, S, ds, d, S1, r, ns, ra, e, k⟩ := hsp
  unfold evC at e
  rw [hfn] at e
  have hl2 : ds.length = fn.ps := by rw [← ra.length, hl, hnp, hps]
  have e' : runF B (evC B n) fn ds S = some (d, S1) := e
  unfold runF at e'
  rw [if_pos hl2, hcls] at e'
  dsimp only at e'
  rw [hn] at e'
  refine ⟨T, startE N.length ds, S, start_rel r ra (by rw [hl, hnp]; exact hle), ?_⟩
  split at e'
  · rename_i env' S' q
    cases e'
    rw [q]
    exact fun σ' T' H' ev rl => k .non T' H' (ev.ev ns) ⟨rfl, fun _ => trivial, rl.tg, rl.st⟩ .non
  · rename_i d' env' S' q
    cases e'
    rw [q]
    exact fun v σ' T' H' ev rl rp => k v T' H' (ev.ev ns) ⟨rfl, fun _ => trivial, rl.tg, rl.st⟩ rp
  · cases e'
/-- a def of the text at a depth -/
structure Cal (P : Program) (w : World) (K : PySem.W.Frag) (mg : Str → Option Value) (base : Heap) (M : Nm) (B : Tb) (n : Nat) (x : Str) (id ar : Nat) : Prop where
  ex : ∃ (fa : Addr) (fd : FuncData) (ps : List Str), mg x = some (.ref fa) ∧ PySem.W.keepIn K (.ref fa) = true ∧ Binds K fd ps [] ∧ ps.length = ar ∧ npar B id = ar ∧ FnOk P w K mg base CX0 (2 * n + 2) fa fd ps (spF M B (evC B n) id)
end
section
variable {X : Cx} {M : Nm} {B : Tb} {a : Expr} {es : List Expr} {ss : List SE} {x : Str} {p pos : Pos} {id n ar : Nat}
theorem re_callN (C : Cal X.prog X.w X.K X.mg X.base M B n x id ar) (hr : Room (2 * n + 3) X.A) (hg : Gl X x) (hlen : (a :: es).length = ar) (hl2 : (a :: es).length = ss.length) (ha : PA X (a :: es) (RAs M B (evC B n) ss)) (hdb : (x == ("__debug__" : Str)) = false) (hs : noStar (a :: es) = true) :
    PE X (.Call (.Name x p) (a :: es) [] pos) (RE M B (evC B n) (.call id ss)) := by
  obtain ⟨fa, fd, ps, hm, hk, hb, h1, h2, F⟩ := C.ex
  have := re_call (dvs := []) (dvl := []) (dds := []) (ss' := []) (ss := ss) (pos := pos) (p := p) F (hr.mono (by omega)) hg hm hk hb .nil (fun _ _ _ _ _ _ _ h => h.elim) (fun _ _ => .nil) (by rw [h2]; simpa using hlen) hl2 (fun env S r e => by
    rw [List.append_nil] at e
    exact ⟨r.1, r.2, e, by rw [List.append_nil]⟩) ha hdb hs
  rw [List.append_nil] at this
  exact this
end
def fnN (names : List Str) (i : Nat) : Str := match names[i]? with
  | some s => s
  | none => ⟨Array.replicate (1000 + i) 0⟩
theorem fnN_inj {names : List Str} (h1 : names.Nodup) (h2 : ∀ s ∈ names, s.cps.size < 1000) : ∀ i j, fnN names i = fnN names j → i = j := by
  intro i j h
  unfold fnN at h
  have big : ∀ k, (⟨Array.replicate (1000 + k) 0⟩ : Str).cps.size = 1000 + k := fun k => by simp
  split at h
  · rename_i s hs
    split at h
    · rename_i s' hs'
      subst h
      obtain ⟨hi, e1⟩ := List.getElem?_eq_some_iff.mp hs
      obtain ⟨hj, e2⟩ := List.getElem?_eq_some_iff.mp hs'
      exact (List.getElem_inj h1).mp (e1.trans e2.symm)
    · have := h2 s (List.mem_of_getElem? hs)
      rw [h, big] at this
      omega
  · split at h
    · rename_i s hs
      have := h2 s (List.mem_of_getElem? hs)
      rw [← h, big] at this
      omega
    · have := congrArg (fun s : Str => s.cps.size) h
      simp only [big] at this
      omega
end RI
end

section
namespace RX
open PySem PySem.Spec L2 RI
open PySem.W (Frag)
open Builtin Builtin.ObjectAttr
open He (ga ma fAd eqO eqO_ok ba DefD Fa SaysD frG frG_in asD AlD obsD valD)
/-- the code of an own exception class's __init__ -/
structure InitD where
  name : Str
  qual : Str
  params : Arguments
  body : List Stmt
  scope : Scope
/-- an own exception class: its name, the built-in tail of its mro, the built-in above, its field -/
structure XD where
  cls : Str
  tl : List Value
  B : String
  newId : String
  initId : String
  fld : Option Str
  init : InitD
abbrev FnI : Type := Option (Str × Str × Arguments × FuncBody × Scope × Addr × Addr)
def fnI (K : Frag) (x : Str) : FnI := match K.lookup (fAd K (x, some "__init__")) with
  | some ⟨_, _, .func fd, _⟩ => some (fd.name, fd.qualname, fd.params, fd.body, fd.scope, fd.globals, fd.builtins)
  | _ => none
def InitD.val (d : InitD) : FnI := some (d.name, d.qual, d.params, .stmts d.body, d.scope, mainGlobals, builtinsNs)
def codeFile (K : Frag) (cd : Value) : Option Str := match cd with
  | .ref c => (match K.lookup c with
    | some ⟨_, _, .fields vs, _⟩ => (match (vs[2]? : Option Value) with
      | some (.str f _) => some f
      | _ => none)
    | _ => none)
  | _ => none
def cellOf (K : Frag) (cl : List (Str × Addr)) : Option Addr := match cl with
  | [(n, c)] => if n = "__class__" then (match K.lookup c with
    | some ⟨_, _, .cell (some (.ref C)), _⟩ => some C
    | _ => none) else none
  | _ => none
def noneV : Value → Bool
  | .none => true
  | _ => false
def initB (K : Frag) (file : Str) (d : XD) : Bool := match K.lookup (fAd K (d.cls, some "__init__")) with
  | some ⟨_, _, .func fd, _⟩ => noneV fd.defaults && (PySem.W.codeIn K fd.code d.init.qual && (decide (codeFile K fd.code = some file) && decide (cellOf K fd.closure = some (ga K d.cls))))
  | _ => false
def xcB (K : Frag) (C : Addr) (tl : List Value) (newId : String) : Bool := match K.lookup C with
  | some ⟨.type c, _, .cls cd, sl⟩ => decide (c = "type") && (match cd.mro, sl.toList with
    | .ref C' :: bm, [_, _, _, _, some (.builtin n), _] => decide (C' = C) && (decide (n = newId) && (!cd.hasDel && (cd.hasDict && refsT tl bm)))
    | _, _ => false)
  | _ => false
def xdB (K : Frag) (file : Str) (d : XD) : Bool :=
  initB K file d && (xcB K (ga K d.cls) d.tl d.newId && (eqO (PySem.W.findIn K (.ref (ga K d.cls)) "__setattr__") (some (some (.builtin "object.__setattr__"))) && (eqO (PySem.W.ks_superIn K (ga K d.cls) (ga K d.cls) "__init__") (some (some (.builtin d.initId))) &&
  (decide (PySem.W.subIn K (.ref (ga K d.cls)) (.type d.B) = some true) && (eqO (PySem.W.findIn K (.ref (ga K d.cls)) "__init__") (some (some (.ref (fAd K (d.cls, some "__init__"))))) && (decide (PySem.W.typeIn K (.ref (fAd K (d.cls, some "__init__"))) = some (.type "function")) &&
  (PySem.W.keepIn K (.ref (ga K d.cls)) && (xfB K (ga K d.cls) && (eqO (PySem.W.findIn K (.ref (ga K d.cls)) "__class__") (some (some (.builtin "object.__class__"))) && (decide (PySem.W.mroIn K (ga K d.cls) (.type "object") = some true) &&
  (eqO (PySem.W.findIn K (.ref (ga K d.cls)) "tag") (some none) && (match d.fld with
    | some f => eqO (PySem.W.findIn K (.ref (ga K d.cls)) f) (some none)
    | none => true))))))))))))
section
variable {K : Frag} {d : XD} {file : Str}
structure XdF (P : Program) (K : Frag) (d : XD) (bmB : List Value) : Prop where
  xc : XcF K (ga K d.cls) d.B d.newId d.initId bmB
  init : ∀ slf, (∃ ar, (d.init.params.posonlyargs ++ d.init.params.args).head? = some ar ∧ ar.arg = slf) → ∃ fd, InitF P K (ga K d.cls) (fAd K (d.cls, some "__init__")) fd d.init.name d.init.qual d.init.params d.init.body d.init.scope slf
  iC : PySem.W.findIn K (.ref (ga K d.cls)) "__init__" = some (some (.ref (fAd K (d.cls, some "__init__"))))
  tI : PySem.W.typeIn K (.ref (fAd K (d.cls, some "__init__"))) = some (.type "function")
  kC : PySem.W.keepIn K (.ref (ga K d.cls)) = true
  xf : XfC K (ga K d.cls)
  is : IsxC K (ga K d.cls)
  tag : PySem.W.findIn K (.ref (ga K d.cls)) "tag" = some none
  fld : ∀ f, d.fld = some f → PySem.W.findIn K (.ref (ga K d.cls)) f = some none
theorem xcB_ok {C : Addr} {tl : List Value} {newId : String} (h : xcB K C tl newId = true) (hn : tl ≠ []) (hp : ∀ self, refuseLoop self "__setattr__" tl = pure ()) : (∃ nm q N bs bm sn sub ab col dd k0 k1 k2 k3 k5, K.lookup C = some (excClassObj nm q C N bs bm true sn sub ab col dd k0 k1 k2 k3 k5 newId) ∧
    (∀ X : String, bm.contains (.type X) = tl.contains (.type X)) ∧ (∀ self, refuseLoop self "__setattr__" bm = pure ()) ∧ bm.isEmpty = false) ∧ (PySem.W.clsIn K C).isSome = true := by
  unfold xcB at h
  split at h
  · rename_i c dd cd sl lk
    obtain ⟨h1, h2⟩ := ba h
    have hc := of_decide_eq_true h1
    subst hc
    split at h2
    · rename_i C' bm k0 k1 k2 k3 n k5 hm hs
      obtain ⟨a1, h2⟩ := ba h2
      obtain ⟨a2, h2⟩ := ba h2
      obtain ⟨a3, h2⟩ := ba h2
      obtain ⟨a4, a5⟩ := ba h2
      have e1 := of_decide_eq_true a1
      have e2 := of_decide_eq_true a2
      subst e1 e2
      obtain ⟨nm, bs, mro, ns, qn, hd, sn, sub, ab, col, del⟩ := cd
      dsimp only at hm a3 a4
      subst hm
      have e3 : del = false := by simpa using a3
      subst e3
      subst a4
      have hsl : sl = #[k0, k1, k2, k3, some (.builtin n), k5] := by
        obtain ⟨l⟩ := sl
        simp only at hs
        rw [hs]
      subst hsl
      refine ⟨⟨nm, qn, ns, bs, bm, sn, sub, ab, col, dd, k0, k1, k2, k3, k5, lk, fun X => refsT_has X hn bm a5, fun self => refsT_pass hp hn self bm a5, ?_⟩, by unfold PySem.W.clsIn; rw [lk]; rfl⟩
      cases bm with
      | nil =>
        rcases refsT_cases [] a5 with ⟨_, _, q, _⟩ | q
        · cases q
        · exact absurd q.symm hn
      | cons _ _ => rfl
    · cases h2
  · cases h
theorem xdB_ok {P : Program} (h : xdB K file d = true) (e : fnI K d.cls = d.init.val) (hf : ((P.main.file : Str) == file) = true) (FB : ExcBaseFacts d.B d.newId d.initId d.tl) (KF : PySem.W.KxsFacts d.B d.initId) (hn : d.tl ≠ []) (hp : ∀ self, refuseLoop self "__setattr__" d.tl = pure ())
    (ho : d.tl.contains (.type "object") = true) (hq : PySem.W.nsIn K cStatics "thirdparty.any" = some none) : XdF P K d d.tl := by
  unfold xdB at h
  obtain ⟨b1, h⟩ := ba h
  obtain ⟨b2, h⟩ := ba h
  obtain ⟨b3, h⟩ := ba h
  obtain ⟨b4, h⟩ := ba h
  obtain ⟨b5, h⟩ := ba h
  obtain ⟨b6, h⟩ := ba h
  obtain ⟨b7, h⟩ := ba h
  obtain ⟨b8, h⟩ := ba h
  obtain ⟨b9, h⟩ := ba h
  obtain ⟨b10, h⟩ := ba h
  obtain ⟨b11, h⟩ := ba h
  obtain ⟨b12, b13⟩ := ba h
  obtain ⟨hcls, hsome⟩ := xcB_ok b2 hn hp
  have X := xfB_ok b9
  refine ⟨⟨FB, KF, hcls, ho, eqO_ok b3, eqO_ok b4, of_decide_eq_true b5, hq⟩, fun slf har => ?_, eqO_ok b6, of_decide_eq_true b7, b8, X, ⟨hsome, X.ga, X.gg, X.exC, eqO_ok b10, of_decide_eq_true b11⟩, eqO_ok b12, fun f hfl => ?_⟩
  · unfold initB at b1
    unfold fnI at e
    split at b1
    · rename_i oc od fd osl lk
      rw [lk] at e
      obtain ⟨c1, b1'⟩ := ba b1
      obtain ⟨c2, b1''⟩ := ba b1'
      obtain ⟨c3, c4⟩ := ba b1''
      clear b1 b1' b1''
      replace c3 := of_decide_eq_true c3
      replace c4 := of_decide_eq_true c4
      obtain ⟨n1, n2, n3, n4, n5, n6, n7, n8, n9, n10, n11, n12, n13, n14, n15⟩ := fd
      have e2 : (some (n1, n2, n3, n4, n5, n6, n15) : FnI) = some (d.init.name, d.init.qual, d.init.params, .stmts d.init.body, d.init.scope, mainGlobals, builtinsNs) := e
      simp only [Option.some.injEq, Prod.mk.injEq] at e2
      obtain ⟨h1, h2, h3, h4, h5, h6, h8⟩ := e2
      subst h1 h2 h3 h4 h5 h6 h8
      dsimp only at c1 c2 c3 c4
      unfold codeFile at c3
      split at c3
      · rename_i cda
        split at c3
        · rename_i ccl cdd vs ccs lk2
          split at c3
          · rename_i f tf hv
            cases c3
            unfold cellOf at c4
            split at c4
            · rename_i n cc
              split at c4
              · rename_i hn'
                subst hn'
                split at c4
                · rename_i cl cld C' csl lk3
                  have c5 := Option.some.inj c4
                  subst c5
                  have c1' : n8 = .none := by
                    cases n8 <;> first | rfl | cases c1
                  subst c1'
                  exact ⟨_, ⟨⟨n9, n10, n11, n12, cda, n14, cc, oc, od, osl, ccl, cdd, ccs, vs, _, tf, cl, cld, csl, rfl, lk, c2, lk2, hv, hf, lk3⟩, har⟩⟩
                · cases c4
              · cases c4
            · cases c4
          · cases c3
        · cases c3
      · cases c3
    · cases b1
  · rw [hfl] at b13
    exact eqO_ok b13
end
abbrev AlR : Type := AlD × List FnI × Bool
/-- isinstance's answers: kitOne by the table -/
abbrev Sub : Type := (Frag → Value) × (Frag → Value) × Bool
def moreB (file : Str) (xs : List XD) (subs : List Sub) (K : Frag) : Bool := (xs.all fun d => xdB K file d) && ((subs.all fun s => decide (PySem.W.kitOne K (s.1 K) (s.2.1 K) = some s.2.2)) && (eqO (PySem.W.specialIn K (.builtin "object.__class__") "__get__") (some (some (.builtin "getset_descriptor.__get__"))) && (decide (PySem.W.takesIn K (.builtin "object.__class__") = some true) && eqO (PySem.W.nsIn K cStatics "thirdparty.any") (some none))))
def obsR (file : Str) (fa : List Fa) (fn : List DefD) (xs : List XD) (subs : List Sub) (K : Frag) : AlR := (obsD fa fn K, xs.map fun d => fnI K d.cls, moreB file xs subs K)
def valR (fn : List DefD) (xs : List XD) : AlR := (valD fn, xs.map fun d => d.init.val, true)
structure SaysR (file : Str) (fa : List Fa) (fn : List DefD) (xs : List XD) (subs : List Sub) (K : Frag) : Prop where
  d : SaysD fa fn K
  i : (xs.map fun d => fnI K d.cls) = xs.map fun d => d.init.val
  m : moreB file xs subs K = true
/-- the heap's part, the statics too -/
def asR (g : Addr → Option Obj) (n : Nat) : List Addr := cStatics :: asD g n
def obsRG (n : Nat) (file : Str) (fa : List Fa) (fn : List DefD) (xs : List XD) (subs : List Sub) (g : Addr → Option Obj) : AlR := obsR file fa fn xs subs (frG g (asR g n))
def hookR (n : Nat) (file : Str) (fa : List Fa) (fn : List DefD) (xs : List XD) (subs : List Sub) : PySem.W.Hook where
  α := AlR
  obs := fun s => obsRG n file fa fn xs subs s.heap.get?
  val := fun _ => valR fn xs
  says := fun _ h => ∃ K : Frag, K.In h ∧ SaysR file fa fn xs subs K
  of := fun _ _ e => ⟨_, frG_in, ⟨congrArg (fun z : AlR => z.1) e, congrArg (fun z : AlR => z.2.1) e, congrArg (fun z : AlR => z.2.2) e⟩⟩
  keeps := fun _ _ _ ⟨K, hK, c⟩ k => ⟨K, PySem.W.Frag.In.keeps hK k, c⟩
theorem obsRG_eq {n : Nat} {file : Str} {fa : List Fa} {fn : List DefD} {xs : List XD} {subs : List Sub} {g : Addr → Option Obj} {s : Shared} (h : ∀ a, g a = s.heap.get? a) : obsRG n file fa fn xs subs g = (hookR n file fa fn xs subs).obs s := by
  have e : g = s.heap.get? := funext h
  rw [e] <;> rfl
theorem SaysR.xd {file : Str} {fa : List Fa} {fn : List DefD} {xs : List XD} {subs : List Sub} {K : Frag} {P : Program} (c : SaysR file fa fn xs subs K) {d : XD} (hd : d ∈ xs) (hf : ((P.main.file : Str) == file) = true) (FB : ExcBaseFacts d.B d.newId d.initId d.tl) (KF : PySem.W.KxsFacts d.B d.initId) (hn : d.tl ≠ [])
    (hp : ∀ self, refuseLoop self "__setattr__" d.tl = pure ()) (ho : d.tl.contains (.type "object") = true) : XdF P K d d.tl := by
  obtain ⟨m1, m⟩ := ba c.m
  obtain ⟨m2, m⟩ := ba m
  obtain ⟨m3, m⟩ := ba m
  obtain ⟨m4, m5⟩ := ba m
  obtain ⟨i, hi, e⟩ := List.mem_iff_getElem.mp hd
  have e2 : (xs.map fun d => fnI K d.cls)[i]? = (xs.map fun d => d.init.val)[i]? := by rw [c.i]
  rw [List.getElem?_map, List.getElem?_map, List.getElem?_eq_getElem hi, e] at e2
  exact xdB_ok (List.all_eq_true.mp m1 d hd) (Option.some.inj e2) hf FB KF hn hp ho (eqO_ok m5)
theorem SaysR.isiF {file : Str} {fa : List Fa} {fn : List DefD} {xs : List XD} {subs : List Sub} {K : Frag} (c : SaysR file fa fn xs subs K) : IsiF K := by
  obtain ⟨m1, m⟩ := ba c.m
  obtain ⟨m2, m⟩ := ba m
  obtain ⟨m3, m⟩ := ba m
  obtain ⟨m4, m5⟩ := ba m
  exact ⟨eqO_ok m3, of_decide_eq_true m4⟩
theorem SaysR.sub {file : Str} {fa : List Fa} {fn : List DefD} {xs : List XD} {subs : List Sub} {K : Frag} (c : SaysR file fa fn xs subs K) {s : Sub} (hs : s ∈ subs) : PySem.W.kitOne K (s.1 K) (s.2.1 K) = some s.2.2 := by
  obtain ⟨m1, m⟩ := ba c.m
  obtain ⟨m2, m⟩ := ba m
  exact of_decide_eq_true (List.all_eq_true.mp m2 s hs)
end RX
end

section
namespace RI
open PySem PySem.Spec L2 RX
open PySem.W (Frag)
open He (ga fAd)
theorem bt_len : bootBuiltins "len" = some (.builtin "len") := by kernel_rfl
theorem bt_abs : bootBuiltins "abs" = some (.builtin "abs") := by kernel_rfl
theorem bt_max : bootBuiltins "max" = some (.builtin "max") := by kernel_rfl
theorem bt_min : bootBuiltins "min" = some (.builtin "min") := by kernel_rfl
theorem bt_sorted : bootBuiltins "sorted" = some (.builtin "sorted") := by kernel_rfl
theorem bt_all : bootBuiltins "all" = some (.builtin "all") := by kernel_rfl
theorem bt_list : bootBuiltins "list" = some (.type "list") := by kernel_rfl
theorem bt_tuple : bootBuiltins "tuple" = some (.type "tuple") := by kernel_rfl
theorem bt_int : bootBuiltins "int" = some (.type "int") := by kernel_rfl
theorem bt_str : bootBuiltins "str" = some (.type "str") := by kernel_rfl
theorem bt_bool : bootBuiltins "bool" = some (.type "bool") := by kernel_rfl
theorem bt_dict : bootBuiltins "dict" = some (.type "dict") := by kernel_rfl
theorem bt_ValueError : bootBuiltins "ValueError" = some (.type "ValueError") := by kernel_rfl
theorem bt_LookupError : bootBuiltins "LookupError" = some (.type "LookupError") := by kernel_rfl
theorem bt_IndexError : bootBuiltins "IndexError" = some (.type "IndexError") := by kernel_rfl
structure XCal (P : Program) (w : World) (K : Frag) (mg : Str → Option Value) (base : Heap) (M : Nm) (B : Tb) (x : Str) (c n : Nat) : Prop where
  ex : ∃ (C fI : Addr) (fd : FuncData) (ps : List Str) (mk : List V → List (Str × V)) (Bn newId initId : String) (bmB : List Value), M.CX c = some C ∧ MkIs M B c n mk ∧ XcF K C Bn newId initId bmB ∧ PySem.W.findIn K (.ref C) "__init__" = some (some (.ref fI)) ∧
    PySem.W.typeIn K (.ref fI) = some (.type "function") ∧ PySem.W.keepIn K (.ref C) = true ∧ FnOk P w K mg base CX0 1 fI fd ps (spXc C mk n) ∧ Binds K fd ps [] ∧ mg x = some (.ref C)
section
variable {X : Cx} {M : Nm} {B : Tb} {φ : Phi} {e : Expr} {es : List Expr} {ss : List SE} {x : Str} {p pos : Pos} {c n : Nat}
theorem re_mkxN (C : XCal X.prog X.w X.K X.mg X.base M B x c n) (hr : Room 2 X.A) (hn : n ≤ 1000) (hg : Gl X x) (ha : PA X (e :: es) (RAs M B φ ss)) (hdb : (x == ("__debug__" : Str)) = false) (hs : noStar (e :: es) = true) : PE X (.Call (.Name x p) (e :: es) [] pos) (RE M B φ (.mkx c ss)) := by
  obtain ⟨C, fI, fd, ps, mk, Bn, newId, initId, bmB, h1, h2, h3, h4, h5, h6, h7, h8, h9⟩ := C.ex
  exact re_mkx h1 h2 hn h3 h4 h5 h6 h7 hr h8 (fun _ _ _ _ _ _ _ h => h.elim) hg h9 ha hdb hs
theorem re_mkxN0 (C : XCal X.prog X.w X.K X.mg X.base M B x c 0) (hr : Room 2 X.A) (hg : Gl X x) (hdb : (x == ("__debug__" : Str)) = false) : PE X (.Call (.Name x p) [] [] pos) (RE M B φ (.mkx c [])) := by
  obtain ⟨C, fI, fd, ps, mk, Bn, newId, initId, bmB, h1, h2, h3, h4, h5, h6, h7, h8, h9⟩ := C.ex
  exact re_mkx0 h1 h2 h3 h4 h5 h6 h7 hr h8 (fun _ _ _ _ _ _ _ h => h.elim) hg h9 hdb
end
def xin1 (fi : Nat) (tag : Str) : List D → Option (List (Nat × D))
  | [d] => some [(0, .str tag), (fi, d)]
  | _ => none
def xin0 (tag : Str) : List D → Option (List (Nat × D))
  | [] => some [(0, .str tag)]
  | _ => none
section
variable {M : Nm} {B : Tb} {c fi : Nat} {fl tag : Str}
theorem mkis1 (hx : B.xin c = xin1 fi tag) (h0 : M.fn 0 = "tag") (hf : M.fn fi = fl) : MkIs M B c 1 (mk1 fl tag) := fun T H vs ds fs r e => by
  rw [hx] at e
  unfold xin1 at e
  split at e
  · cases e
    cases r with
    | cons r1 r2 =>
      cases r2
      exact ⟨rfl, by simp [mk1, h0, hf], .cons (.str _) (.cons r1 .nil)⟩
  · cases e
theorem mkis0 (hx : B.xin c = xin0 tag) (h0 : M.fn 0 = "tag") : MkIs M B c 0 (mk0 tag) := fun T H vs ds fs r e => by
  rw [hx] at e
  unfold xin0 at e
  split at e
  · cases e
    cases r
    exact ⟨rfl, by simp [mk0, h0], .cons (.str _) .nil⟩
  · cases e
end
section
variable {P : Program} {w : World} {K : Frag} {mg : Str → Option Value} {base : Heap} {M : Nm} {B : Tb} {d : XD} {bmB : List Value} {c fi : Nat} {slf pr fl tag tx : Str} {p0 p1 pa pc pp pe q0 q1 q2 q3 r0 r1 r2 r3 : Pos} {j j2 : Nat}
theorem xcal1 (D : XdF P K d bmB) (hb : d.init.body = [sSuper p0 p1 pa pc pp pe tx j, sFld slf fl pr q0 q1 q2 q3, sTag slf tag j2 r0 r1 r2 r3]) (har : ∃ ar, (d.init.params.posonlyargs ++ d.init.params.args).head? = some ar ∧ ar.arg = slf) (S : ScF P d.init.scope [slf, pr]) (hev : EvOk p0 p1 pa pc pp tx j)
    (hbind : ∀ (kV doc pm : Value) (an : Option Addr) (cdv ct : Value) (cc : Addr) (us : List Value), us.length = 2 → bindArgs (PySem.W.ksFn d.init.name d.init.qual d.init.params d.init.body d.init.scope .none kV doc pm an cdv ct cc) ⟨us, []⟩ = pure ([slf, pr].zip us))
    (hmg : mg "super" = none) (hne : slf ≠ pr) (hd1 : (slf == ("__debug__" : Str)) = false) (hd2 : (pr == ("__debug__" : Str)) = false) (hfl : d.fld = some fl) (hc : M.CX c = some (ga K d.cls)) (hx : B.xin c = xin1 fi tag) (h0 : M.fn 0 = "tag") (hf : M.fn fi = fl) (hg : mg d.cls = some (.ref (ga K d.cls))) : XCal P w K mg base M B d.cls c 1 := by
  obtain ⟨fd, I⟩ := D.init slf har
  have bd : Binds K fd [slf, pr] [] := by
    obtain ⟨kV, doc, pm, an, cda, ct, cc, oc, od, osl, ccl, cdd, ccs, vs, file, tf, cl, cld, csl, rfl, _⟩ := I.ex
    exact .all fun us hl => hbind kV doc pm an (.ref cda) ct cc us hl
  rw [hb] at I
  exact ⟨_, _, fd, [slf, pr], mk1 fl tag, _, _, _, bmB, hc, mkis1 hx h0 hf, D.xc, D.iC, D.tI, D.kC, init1_ok (k := 0) D.xc I S hev hmg hne hd1 hd2 (D.fld _ hfl) D.tag, bd, hg⟩
theorem xcal0 (D : XdF P K d bmB) (hb : d.init.body = [sSuper p0 p1 pa pc pp pe tx j, sTag slf tag j2 r0 r1 r2 r3]) (har : ∃ ar, (d.init.params.posonlyargs ++ d.init.params.args).head? = some ar ∧ ar.arg = slf) (S : ScF P d.init.scope [slf]) (hev : EvOk p0 p1 pa pc pp tx j)
    (hbind : ∀ (kV doc pm : Value) (an : Option Addr) (cdv ct : Value) (cc : Addr) (us : List Value), us.length = 1 → bindArgs (PySem.W.ksFn d.init.name d.init.qual d.init.params d.init.body d.init.scope .none kV doc pm an cdv ct cc) ⟨us, []⟩ = pure ([slf].zip us))
    (hmg : mg "super" = none) (hd1 : (slf == ("__debug__" : Str)) = false) (hc : M.CX c = some (ga K d.cls)) (hx : B.xin c = xin0 tag) (h0 : M.fn 0 = "tag") (hg : mg d.cls = some (.ref (ga K d.cls))) : XCal P w K mg base M B d.cls c 0 := by
  obtain ⟨fd, I⟩ := D.init slf har
  have bd : Binds K fd [slf] [] := by
    obtain ⟨kV, doc, pm, an, cda, ct, cc, oc, od, osl, ccl, cdd, ccs, vs, file, tf, cl, cld, csl, rfl, _⟩ := I.ex
    exact .all fun us hl => hbind kV doc pm an (.ref cda) ct cc us hl
  rw [hb] at I
  exact ⟨_, _, fd, [slf], mk0 tag, _, _, _, bmB, hc, mkis0 hx h0, D.xc, D.iC, D.tI, D.kC, init0_ok (k := 0) D.xc I S hev hmg hd1 D.tag, bd, hg⟩
end
/-- Value of a class's code -/
def tyK (M : Frag → Nm) (k : Nat) (K : Frag) : Value := (tyV (M K) k).getD .none
/-- a script as data -/
theorem ints_all {M : Nm} {T : Tg} {H : Hp} : ∀ ns : List Int, RepAll M T H (ns.map V.int) (ns.map D.int)
  | [] => .nil
  | n :: r => .cons (.int n) (ints_all r)
theorem scr_rep {M : Nm} {T : Tg} {H : Hp} {a : Addr} {ns : List Int} (hT : T a = none) (h : SqL M.K H a (ns.map V.int)) : Rep M T H (.ref a) (.scr (ns.map D.int)) := by
  refine .scr (xs := ns.map V.int) ?_ (ints_all ns)
  rcases h with h | h
  · exact .inl ⟨h, hT⟩
  · exact .inr (.inr h)
section
variable {X : Cx} {M : Nm} {B : Tb} {φ : Phi} {a b : Expr} {sa sb : SE} {pos : Pos}
theorem pt_cmpT {op : CmpOp} {o : COp} (h : CmpR X M (compareOp op) (evCmp o)) (ho : ObjC X M B φ (compareOp op) o) (hp : ∀ x y : D, plainC o x y = true ∨ ∃ c fs, x = .obj c fs) (hm : behindInMarks op b = false) (ha : PE X a (RB M B φ sa)) (hb : PE X b (RB M B φ sb)) :
    PT X (.Compare a [op] [b] pos) (RT M B φ (.cmp o sa sb)) := by
  obtain ⟨r1, h1, k1⟩ := h
  obtain ⟨r2, h2, k2⟩ := ho
  refine PT.imp (pt_cmpR (h1.or h2) ha hb hm) fun σ H Q ⟨T, env, S, b', S1, r, e, k⟩ => ?_
  simp only [evE] at e
  obtain ⟨x, Sx, ex, e⟩ := bnd_eq e
  obtain ⟨y, Sy, ey, e⟩ := bnd_eq e
  refine go2 r ex ey fun u v T2 H2 ev rl pu pv => ?_
  by_cases q : plainC o x y = true
  · rw [cmpD_plain q] at e
    obtain ⟨e1, rfl⟩ := lift_eq e
    obtain ⟨b2, e2, e3⟩ := map_bl e1
    cases e3
    exact .inl (k1 T2 H2 x y b' u v _ pu pv e2 ⟨b', rfl, k T2 H2 ev rl⟩)
  · rcases hp x y with w | ⟨c, fs, rfl⟩
    · exact absurd w q
    · exact .inr (k2 T2 σ H2 env Sy S1 c fs y _ u v _ rl pu pv (by simpa using q) e fun w T' H' ev' rl' rp => by
        cases rp
        exact ⟨b', rfl, k T' H' (ev.then ev') rl'⟩)
end
section
variable {B : Tb} {φ : Phi} {env : List Slot} {S S1 : Store}
theorem nn_int {i : Int} : ∀ env S S1, evE B φ (.cint i) env S ≠ some (.non, S1) := fun _ _ _ h => by simp [evE] at h
theorem nn_neg {a : SE} : ∀ env S S1, evE B φ (.neg a) env S ≠ some (.non, S1) := fun _ _ _ h => by
  simp only [evE] at h
  obtain ⟨x, Sx, ex, h⟩ := bnd_eq h
  split at h <;> cases h
end
end RI
end

section
namespace LW
open PySem PySem.Spec L2 RX RI
open PySem.W (Frag)
open PyProof.Rows (envOfC)
def top (i : Nat) : Stmt := PySem.Challenge.pw_tiespan_k59_refusals_by_their_classes.main.body.getD i (.Pass ⟨0, 0, 0, 0⟩)
def N__law_feed : List Str := ["_law_script", "_law_cells", "_law_mark", "_law_cell"]
def b__law_feed : List SS := [(.asg 1 (.lc (List.map (fun p : Str × Nat => p.2) [("_law_cell", 3)]) (.bi 8 [(.var 3)]) (.nm 3) .seq [(.slc (.var 0) .cnon (.cint 63))] (.cbl true))),
  (.asg 2 (.bin .add (.cint 3834) (.bin .mul (.cint 53) (.bi 0 [(.var 1)])))),
  (.for_ none (.nm 3) .seq [(.var 1)] [(.asg 2 (.bin .mod (.bi 8 [(.bin .add (.bin .mul (.var 2) (.cint 8117)) (.var 3))]) (.cint 2147483629)))]),
  (.ret (.newc [(.var 1), (.cint 0), (.cint 0), (.var 2)]))]
def N__law_draw : List Str := ["_law_feed_here", "_law_many", "_law_cell", "_law_one", "_law_two", "_law_drawn"]
def b__law_draw : List SS := [(.if_ (.cmp .lt (.idx (.var 0) (.cint 2)) (.cint 2)) [(.putR (.var 0) (.cint 1) (.bin .add (.idx (.var 0) (.cint 1)) (.cint 1))),
  (.asg 2 (.bin .add (.idx (.var 0) (.cint 3)) (.bin .mul (.idx (.var 0) (.cint 1)) (.cint 7919)))),
  (.if_ (.cmp .le (.idx (.var 0) (.cint 1)) (.bi 0 [(.idx (.var 0) (.cint 0))])) [(.asg 2 (.idx (.idx (.var 0) (.cint 0)) (.bin .sub (.idx (.var 0) (.cint 1)) (.cint 1))))] []),
  (.if_ (.or_ (.cmp .gt (.idx (.var 0) (.cint 1)) (.bi 0 [(.idx (.var 0) (.cint 0))])) (.cmp .lt (.var 2) (.cint ((10 : Int) ^ (18 : Int).toNat)))) [(.asg 3 (.bin .mod (.bi 8 [(.bin .add (.bin .add (.bin .mul (.var 2) (.cint 48271)) (.bin .mul (.idx (.var 0) (.cint 1)) (.cint 69621))) (.idx (.var 0) (.cint 3)))]) (.cint 2147483647))),
  (.asg 4 (.bin .mod (.bi 8 [(.bin .add (.bin .mul (.var 3) (.var 3)) (.bin .mul (.idx (.var 0) (.cint 1)) (.cint 16807)))]) (.cint 998244353))),
  (.ret (.bin .mod (.bin .fdiv (.bin .mod (.bi 8 [(.bin .add (.bin .mul (.var 4) (.cint 40692)) (.var 3))]) (.cint 2147483629)) (.cint 11)) (.var 1)))] []),
  (.putR (.var 0) (.cint 2) (.var 2))] []),
  (.asg 5 (.bin .mod (.bi 8 [(.idx (.var 0) (.cint 2))]) (.var 1))),
  (.putR (.var 0) (.cint 2) (.bin .fdiv (.bi 8 [(.idx (.var 0) (.cint 2))]) (.var 1))),
  (.ret (.var 5))]
def N__law_any : List Str := ["_law_feed_here", "_law_row"]
def b__law_any : List SS := [(.ret (.idx (.var 1) (.call 1 [(.var 0), (.bi 0 [(.var 1)])])))]
def N__law_same : List Str := ["_law_found", "_law_due", "_law_key", "_law_one", "_law_two"]
def b__law_same : List SS := [(.if_ (.cmp .isN (.var 1) .cnon) [(.ret (.cmp .isN (.var 0) .cnon))] []),
  (.if_ (.or_ (.isi (.var 1) [1]) (.isi (.var 0) [1])) [(.ret (.and_ (.isi (.var 1) [1]) (.and_ (.isi (.var 0) [1]) (.cmp .eq (.var 0) (.var 1)))))] []),
  (.if_ (.isi (.var 1) [0, 2]) [(.ret (.and_ (.isi (.var 0) [0, 2]) (.and_ (.cmp .eq (.isi (.var 0) [0]) (.isi (.var 1) [0])) (.cmp .eq (.var 0) (.var 1)))))] []),
  (.if_ (.isi (.var 1) [5]) [(.if_ (.or_ (.not_ (.isi (.var 0) [5])) (.cmp .ne (.bi 4 [(.bi 5 [(.var 0)])]) (.bi 4 [(.bi 5 [(.var 1)])]))) [(.ret (.cbl false))] []),
  (.ret (.bi 10 [(.lc (List.map (fun p : Str × Nat => p.2) [("_law_key", 2)]) (.call 3 [(.idx (.var 0) (.var 2)), (.idx (.var 1) (.var 2))]) (.nm 2) .seq [(.var 1)] (.cbl true))]))] []),
  (.if_ (.or_ (.cmp .ne (.isi (.var 1) [4]) (.isi (.var 0) [4])) (.cmp .ne (.isi (.var 1) [3]) (.isi (.var 0) [3]))) [(.ret (.cbl false))] []),
  (.ret (.and_ (.cmp .eq (.bi 0 [(.var 0)]) (.bi 0 [(.var 1)])) (.bi 10 [(.lc (List.map (fun p : Str × Nat => p.2) [("_law_one", 3), ("_law_two", 4)]) (.call 3 [(.var 3), (.var 4)]) (.tp [(.nm 3), (.nm 4)]) .zip [(.var 0), (.var 1)] (.cbl true))])))]
def N__law_made_errors : List Str := ["_law_number", "_law_word", "_law_found"]
def b__law_made_errors : List SS := [(.asg 2 (.lst [(.mkx 2 [(.var 0)]), (.mkx 3 [(.var 0)]), (.mkx 4 [(.var 1)]), (.mkx 5 [(.var 0)]), (.mkx 6 [(.var 0)]), (.mkx 7 [(.var 0)])])),
  (.asg 2 (.bin .add (.var 2) (.lst [(.mkx 8 [(.var 0)]), (.mkx 9 [(.var 1)]), (.mkx 10 [(.var 0)]), (.mkx 11 [(.var 1)]), (.mkx 12 []), (.mkx 13 []), (.mkx 14 [])]))),
  (.asg 2 (.bin .add (.var 2) (.lst [(.mkx 15 [(.var 1)]), (.mkx 16 [(.var 1)]), (.mkx 17 [(.var 0)]), (.mkx 18 [(.var 1)]), (.mkx 19 [(.var 0)])]))),
  (.ret (.bin .add (.var 2) (.lst [(.mkx 20 [(.var 1)]), (.mkx 21 [(.var 1)]), (.mkx 22 [])])))]
def N__law_flags : List Str := ["_law_e", "_law_found"]
def b__law_flags : List SS := [(.asg 1 (.lst [(.isi (.var 0) [12]), (.isi (.var 0) [13]), (.isi (.var 0) [14]), (.isi (.var 0) [15])])),
  (.asg 1 (.bin .add (.var 1) (.lst [(.isi (.var 0) [16]), (.isi (.var 0) [17]), (.isi (.var 0) [18]), (.isi (.var 0) [19])]))),
  (.asg 1 (.bin .add (.var 1) (.lst [(.isi (.var 0) [20]), (.isi (.var 0) [21]), (.isi (.var 0) [22]), (.isi (.var 0) [23])]))),
  (.asg 1 (.bin .add (.var 1) (.lst [(.isi (.var 0) [24]), (.isi (.var 0) [25]), (.isi (.var 0) [26]), (.isi (.var 0) [27])]))),
  (.asg 1 (.bin .add (.var 1) (.lst [(.isi (.var 0) [28]), (.isi (.var 0) [29]), (.isi (.var 0) [30])]))),
  (.ret (.bin .add (.var 1) (.lst [(.isi (.var 0) [31]), (.isi (.var 0) [32])])))]
def N__law_value_of : List Str := ["_law_e"]
def b__law_value_of : List SS := [(.if_ (.isi (.var 0) [12, 17, 18]) [(.ret (.fld (.var 0) 1))] []),
  (.if_ (.isi (.var 0) [13, 15, 16, 27]) [(.ret (.fld (.var 0) 2))] []),
  (.if_ (.isi (.var 0) [14, 21, 30]) [(.ret (.fld (.var 0) 3))] []),
  (.if_ (.isi (.var 0) [28, 31]) [(.ret (.fld (.var 0) 7))] []),
  (.if_ (.isi (.var 0) [25, 26]) [(.ret (.fld (.var 0) 6))] []),
  (.if_ (.isi (.var 0) [20, 29]) [(.ret (.ite (.isi (.var 0) [20]) (.fld (.var 0) 5) (.fld (.var 0) 8)))] []),
  (.ret (.ite (.isi (.var 0) [19]) (.fld (.var 0) 4) .cnon))]
def N_law : List Str := ["_law_script", "_law_feed_here", "_law_number", "_law_word", "_law_tags", "_law_due", "_law_made", "_law_start", "_law_at", "_law_e", "_law_told", "_law_k"]
def b_law : List SS := [(.asg 1 (.call 0 [(.var 0)])),
  (.par [(2, false), (3, false)] [(.call 1 [(.var 1), (.cint ((10 : Int) ^ (6 : Int).toNat))]), (.call 2 [(.var 1), (.lst [(.cstr "b"), (.cstr "oak"), (.cstr "elm")])])]),
  (.asg 4 (.cstr "InvalidRatio InvalidRow InvalidName InvalidTie InvalidWish InvalidTimes InvalidLimit InvalidCommand")),
  (.asg 4 (.bin .add (.var 4) (.cstr " NotTied SameName NamesDiffer EmptyFigure Impossible Possible NotImplied ParseError"))),
  (.asg 4 (.spl (.bin .add (.var 4) (.cstr " DuplicateLabel CapacityExceeded")) (.cstr " "))),
  (.asg 4 (.bin .add (.var 4) (.lst [(.cstr "UnknownName"), (.cstr "UnknownLabel"), (.cstr "NothingLeft")]))),
  (.asg 5 (.lst [(.var 2), (.var 2), (.var 3), (.var 2), (.var 2), (.var 2), (.var 2), (.var 3), (.var 2), (.var 3), .cnon, .cnon, .cnon, (.var 3), (.var 3), (.var 2), (.var 3), (.var 2), (.var 3), (.var 3), .cnon])),
  (.unp [(.nm 6), (.nm 7)] (.tup [(.call 4 [(.var 2), (.var 3)]), (.call 1 [(.var 1), (.cint 21)])])),
  (.for_ none (.nm 8) .seq [(.lc (List.map (fun p : Str × Nat => p.2) [("_law_k", 11)]) (.bin .mod (.bi 8 [(.bin .add (.var 7) (.var 11))]) (.cint 21)) (.nm 11) .rng [(.cint 21)] (.cbl true))] [(.asg 9 (.idx (.var 6) (.var 8))),
  (.if_ (.or_ (.cmp .ne (.call 5 [(.var 9)]) (.lc (List.map (fun p : Str × Nat => p.2) [("_law_k", 11)]) (.cmp .eq (.var 11) (.var 8)) (.nm 11) .rng [(.cint 21)] (.cbl true))) (.or_ (.cmp .ne (.fld (.var 9) 0) (.idx (.var 4) (.var 8))) (.not_ (.call 3 [(.call 6 [(.var 9)]), (.idx (.var 5) (.var 8))])))) [(.ret (.cbl false))] []),
  (.asg 10 (.lst [(.isi (.var 9) [10]), (.isi (.var 9) [11]), (.isi (.var 9) [7]), (.isi (.var 9) [8]), (.isi (.var 9) [9])])),
  (.if_ (.cmp .ne (.var 10) (.lst [(.cmp .lt (.var 8) (.cint 18)), (.chain .le .lt (.cint 18) (.var 8) (.cint 20)), (.cmp .lt (.var 8) (.cint 18)), (.cmp .gt (.var 8) (.cint 17)), (.cmp .eq (.var 8) (.cint 20))])) [(.ret (.cbl false))] [])]),
  (.ret (.cmp .eq (.bi 0 [(.var 6)]) (.cint 21)))]
def fT : Nat → Option Fn
  | 0 => some ⟨4, 1, none, b__law_feed⟩
  | 1 => some ⟨6, 2, none, b__law_draw⟩
  | 2 => some ⟨2, 2, none, b__law_any⟩
  | 3 => some ⟨5, 2, none, b__law_same⟩
  | 4 => some ⟨3, 2, none, b__law_made_errors⟩
  | 5 => some ⟨2, 1, none, b__law_flags⟩
  | 6 => some ⟨1, 1, none, b__law_value_of⟩
  | 7 => some ⟨12, 1, none, b_law⟩
  | _ => none
def xokT : Nat → Nat → Bool
  | 2 => fun f => decide (f = 0) || decide (f = 1)
  | 3 => fun f => decide (f = 0) || decide (f = 2)
  | 4 => fun f => decide (f = 0) || decide (f = 3)
  | 5 => fun f => decide (f = 0) || decide (f = 2)
  | 6 => fun f => decide (f = 0) || decide (f = 2)
  | 7 => fun f => decide (f = 0) || decide (f = 1)
  | 8 => fun f => decide (f = 0) || decide (f = 1)
  | 9 => fun f => decide (f = 0) || decide (f = 4)
  | 10 => fun f => decide (f = 0) || decide (f = 5)
  | 11 => fun f => decide (f = 0) || decide (f = 3)
  | 12 => fun f => decide (f = 0)
  | 13 => fun f => decide (f = 0)
  | 14 => fun f => decide (f = 0)
  | 15 => fun f => decide (f = 0) || decide (f = 6)
  | 16 => fun f => decide (f = 0) || decide (f = 6)
  | 17 => fun f => decide (f = 0) || decide (f = 2)
  | 18 => fun f => decide (f = 0) || decide (f = 7)
  | 19 => fun f => decide (f = 0) || decide (f = 8)
  | 20 => fun f => decide (f = 0) || decide (f = 3)
  | 21 => fun f => decide (f = 0) || decide (f = 7)
  | 22 => fun f => decide (f = 0)
  | _ => fun _ => false
def xinT : Nat → List D → Option (List (Nat × D))
  | 2 => xin1 1 "InvalidRatio"
  | 3 => xin1 2 "InvalidRow"
  | 4 => xin1 3 "InvalidName"
  | 5 => xin1 2 "InvalidTie"
  | 6 => xin1 2 "InvalidWish"
  | 7 => xin1 1 "InvalidTimes"
  | 8 => xin1 1 "InvalidLimit"
  | 9 => xin1 4 "InvalidCommand"
  | 10 => xin1 5 "NotTied"
  | 11 => xin1 3 "SameName"
  | 12 => xin0 "NamesDiffer"
  | 13 => xin0 "EmptyFigure"
  | 14 => xin0 "Impossible"
  | 15 => xin1 6 "Possible"
  | 16 => xin1 6 "NotImplied"
  | 17 => xin1 2 "ParseError"
  | 18 => xin1 7 "DuplicateLabel"
  | 19 => xin1 8 "CapacityExceeded"
  | 20 => xin1 3 "UnknownName"
  | 21 => xin1 7 "UnknownLabel"
  | 22 => xin0 "NothingLeft"
  | _ => fun _ => none
def subTab0 : List (Nat × Nat × Bool) := [(0, 0, true), (0, 1, false), (0, 2, false), (0, 3, false), (0, 4, false), (0, 5, false), (0, 7, false), (0, 8, false), (0, 9, false), (0, 10, false), (0, 11, false), (0, 12, false), (0, 13, false), (0, 14, false), (0, 15, false), (0, 16, false), (0, 17, false), (0, 18, false), (0, 19, false), (0, 20, false), (0, 21, false), (0, 22, false), (0, 23, false), (0, 24, false), (0, 25, false), (0, 26, false), (0, 27, false), (0, 28, false), (0, 29, false), (0, 30, false), (0, 31, false), (0, 32, false), (1, 0, true), (1, 1, true), (1, 2, false), (1, 3, false), (1, 4, false), (1, 5, false), (1, 7, false), (1, 8, false), (1, 9, false), (1, 10, false), (1, 11, false), (1, 12, false), (1, 13, false), (1, 14, false), (1, 15, false), (1, 16, false), (1, 17, false), (1, 18, false), (1, 19, false), (1, 20, false), (1, 21, false), (1, 22, false), (1, 23, false), (1, 24, false), (1, 25, false), (1, 26, false), (1, 27, false), (1, 28, false)]
def subTab1 : List (Nat × Nat × Bool) := [(1, 29, false), (1, 30, false), (1, 31, false), (1, 32, false), (2, 0, false), (2, 1, false), (2, 2, true), (2, 3, false), (2, 4, false), (2, 5, false), (2, 7, false), (2, 8, false), (2, 9, false), (2, 10, false), (2, 11, false), (2, 12, false), (2, 13, false), (2, 14, false), (2, 15, false), (2, 16, false), (2, 17, false), (2, 18, false), (2, 19, false), (2, 20, false), (2, 21, false), (2, 22, false), (2, 23, false), (2, 24, false), (2, 25, false), (2, 26, false), (2, 27, false), (2, 28, false), (2, 29, false), (2, 30, false), (2, 31, false), (2, 32, false), (3, 0, false), (3, 1, false), (3, 2, false), (3, 3, true), (3, 4, false), (3, 5, false), (3, 7, false), (3, 8, false), (3, 9, false), (3, 10, false), (3, 11, false), (3, 12, false), (3, 13, false), (3, 14, false), (3, 15, false), (3, 16, false), (3, 17, false), (3, 18, false), (3, 19, false), (3, 20, false), (3, 21, false), (3, 22, false), (3, 23, false), (3, 24, false)]
def subTab2 : List (Nat × Nat × Bool) := [(3, 25, false), (3, 26, false), (3, 27, false), (3, 28, false), (3, 29, false), (3, 30, false), (3, 31, false), (3, 32, false), (4, 0, false), (4, 1, false), (4, 2, false), (4, 3, false), (4, 4, true), (4, 5, false), (4, 7, false), (4, 8, false), (4, 9, false), (4, 10, false), (4, 11, false), (4, 12, false), (4, 13, false), (4, 14, false), (4, 15, false), (4, 16, false), (4, 17, false), (4, 18, false), (4, 19, false), (4, 20, false), (4, 21, false), (4, 22, false), (4, 23, false), (4, 24, false), (4, 25, false), (4, 26, false), (4, 27, false), (4, 28, false), (4, 29, false), (4, 30, false), (4, 31, false), (4, 32, false), (5, 0, false), (5, 1, false), (5, 2, false), (5, 3, false), (5, 4, false), (5, 5, true), (5, 7, false), (5, 8, false), (5, 9, false), (5, 10, false), (5, 11, false), (5, 12, false), (5, 13, false), (5, 14, false), (5, 15, false), (5, 16, false), (5, 17, false), (5, 18, false), (5, 19, false), (5, 20, false)]
def subTab3 : List (Nat × Nat × Bool) := [(5, 21, false), (5, 22, false), (5, 23, false), (5, 24, false), (5, 25, false), (5, 26, false), (5, 27, false), (5, 28, false), (5, 29, false), (5, 30, false), (5, 31, false), (5, 32, false), (6, 0, false), (6, 1, false), (6, 2, false), (6, 3, false), (6, 4, false), (6, 5, false), (6, 7, false), (6, 8, false), (6, 9, false), (6, 10, false), (6, 11, false), (6, 12, false), (6, 13, false), (6, 14, false), (6, 15, false), (6, 16, false), (6, 17, false), (6, 18, false), (6, 19, false), (6, 20, false), (6, 21, false), (6, 22, false), (6, 23, false), (6, 24, false), (6, 25, false), (6, 26, false), (6, 27, false), (6, 28, false), (6, 29, false), (6, 30, false), (6, 31, false), (6, 32, false), (12, 0, false), (12, 1, false), (12, 2, false), (12, 3, false), (12, 4, false), (12, 5, false), (12, 7, true), (12, 8, false), (12, 9, false), (12, 10, true), (12, 11, false), (12, 12, true), (12, 13, false), (12, 14, false), (12, 15, false), (12, 16, false)]
def subTab4 : List (Nat × Nat × Bool) := [(12, 17, false), (12, 18, false), (12, 19, false), (12, 20, false), (12, 21, false), (12, 22, false), (12, 23, false), (12, 24, false), (12, 25, false), (12, 26, false), (12, 27, false), (12, 28, false), (12, 29, false), (12, 30, false), (12, 31, false), (12, 32, false), (13, 0, false), (13, 1, false), (13, 2, false), (13, 3, false), (13, 4, false), (13, 5, false), (13, 7, true), (13, 8, false), (13, 9, false), (13, 10, true), (13, 11, false), (13, 12, false), (13, 13, true), (13, 14, false), (13, 15, false), (13, 16, false), (13, 17, false), (13, 18, false), (13, 19, false), (13, 20, false), (13, 21, false), (13, 22, false), (13, 23, false), (13, 24, false), (13, 25, false), (13, 26, false), (13, 27, false), (13, 28, false), (13, 29, false), (13, 30, false), (13, 31, false), (13, 32, false), (14, 0, false), (14, 1, false), (14, 2, false), (14, 3, false), (14, 4, false), (14, 5, false), (14, 7, true), (14, 8, false), (14, 9, false), (14, 10, true), (14, 11, false), (14, 12, false)]
def subTab5 : List (Nat × Nat × Bool) := [(14, 13, false), (14, 14, true), (14, 15, false), (14, 16, false), (14, 17, false), (14, 18, false), (14, 19, false), (14, 20, false), (14, 21, false), (14, 22, false), (14, 23, false), (14, 24, false), (14, 25, false), (14, 26, false), (14, 27, false), (14, 28, false), (14, 29, false), (14, 30, false), (14, 31, false), (14, 32, false), (15, 0, false), (15, 1, false), (15, 2, false), (15, 3, false), (15, 4, false), (15, 5, false), (15, 7, true), (15, 8, false), (15, 9, false), (15, 10, true), (15, 11, false), (15, 12, false), (15, 13, false), (15, 14, false), (15, 15, true), (15, 16, false), (15, 17, false), (15, 18, false), (15, 19, false), (15, 20, false), (15, 21, false), (15, 22, false), (15, 23, false), (15, 24, false), (15, 25, false), (15, 26, false), (15, 27, false), (15, 28, false), (15, 29, false), (15, 30, false), (15, 31, false), (15, 32, false), (16, 0, false), (16, 1, false), (16, 2, false), (16, 3, false), (16, 4, false), (16, 5, false), (16, 7, true), (16, 8, false)]
def subTab6 : List (Nat × Nat × Bool) := [(16, 9, false), (16, 10, true), (16, 11, false), (16, 12, false), (16, 13, false), (16, 14, false), (16, 15, false), (16, 16, true), (16, 17, false), (16, 18, false), (16, 19, false), (16, 20, false), (16, 21, false), (16, 22, false), (16, 23, false), (16, 24, false), (16, 25, false), (16, 26, false), (16, 27, false), (16, 28, false), (16, 29, false), (16, 30, false), (16, 31, false), (16, 32, false), (17, 0, false), (17, 1, false), (17, 2, false), (17, 3, false), (17, 4, false), (17, 5, false), (17, 7, true), (17, 8, false), (17, 9, false), (17, 10, true), (17, 11, false), (17, 12, false), (17, 13, false), (17, 14, false), (17, 15, false), (17, 16, false), (17, 17, true), (17, 18, false), (17, 19, false), (17, 20, false), (17, 21, false), (17, 22, false), (17, 23, false), (17, 24, false), (17, 25, false), (17, 26, false), (17, 27, false), (17, 28, false), (17, 29, false), (17, 30, false), (17, 31, false), (17, 32, false), (18, 0, false), (18, 1, false), (18, 2, false), (18, 3, false)]
def subTab7 : List (Nat × Nat × Bool) := [(18, 4, false), (18, 5, false), (18, 7, true), (18, 8, false), (18, 9, false), (18, 10, true), (18, 11, false), (18, 12, false), (18, 13, false), (18, 14, false), (18, 15, false), (18, 16, false), (18, 17, false), (18, 18, true), (18, 19, false), (18, 20, false), (18, 21, false), (18, 22, false), (18, 23, false), (18, 24, false), (18, 25, false), (18, 26, false), (18, 27, false), (18, 28, false), (18, 29, false), (18, 30, false), (18, 31, false), (18, 32, false), (19, 0, false), (19, 1, false), (19, 2, false), (19, 3, false), (19, 4, false), (19, 5, false), (19, 7, true), (19, 8, false), (19, 9, false), (19, 10, true), (19, 11, false), (19, 12, false), (19, 13, false), (19, 14, false), (19, 15, false), (19, 16, false), (19, 17, false), (19, 18, false), (19, 19, true), (19, 20, false), (19, 21, false), (19, 22, false), (19, 23, false), (19, 24, false), (19, 25, false), (19, 26, false), (19, 27, false), (19, 28, false), (19, 29, false), (19, 30, false), (19, 31, false), (19, 32, false)]
def subTab8 : List (Nat × Nat × Bool) := [(20, 0, false), (20, 1, false), (20, 2, false), (20, 3, false), (20, 4, false), (20, 5, false), (20, 7, true), (20, 8, false), (20, 9, false), (20, 10, true), (20, 11, false), (20, 12, false), (20, 13, false), (20, 14, false), (20, 15, false), (20, 16, false), (20, 17, false), (20, 18, false), (20, 19, false), (20, 20, true), (20, 21, false), (20, 22, false), (20, 23, false), (20, 24, false), (20, 25, false), (20, 26, false), (20, 27, false), (20, 28, false), (20, 29, false), (20, 30, false), (20, 31, false), (20, 32, false), (21, 0, false), (21, 1, false), (21, 2, false), (21, 3, false), (21, 4, false), (21, 5, false), (21, 7, true), (21, 8, false), (21, 9, false), (21, 10, true), (21, 11, false), (21, 12, false), (21, 13, false), (21, 14, false), (21, 15, false), (21, 16, false), (21, 17, false), (21, 18, false), (21, 19, false), (21, 20, false), (21, 21, true), (21, 22, false), (21, 23, false), (21, 24, false), (21, 25, false), (21, 26, false), (21, 27, false), (21, 28, false)]
def subTab9 : List (Nat × Nat × Bool) := [(21, 29, false), (21, 30, false), (21, 31, false), (21, 32, false), (22, 0, false), (22, 1, false), (22, 2, false), (22, 3, false), (22, 4, false), (22, 5, false), (22, 7, true), (22, 8, false), (22, 9, false), (22, 10, true), (22, 11, false), (22, 12, false), (22, 13, false), (22, 14, false), (22, 15, false), (22, 16, false), (22, 17, false), (22, 18, false), (22, 19, false), (22, 20, false), (22, 21, false), (22, 22, true), (22, 23, false), (22, 24, false), (22, 25, false), (22, 26, false), (22, 27, false), (22, 28, false), (22, 29, false), (22, 30, false), (22, 31, false), (22, 32, false), (23, 0, false), (23, 1, false), (23, 2, false), (23, 3, false), (23, 4, false), (23, 5, false), (23, 7, true), (23, 8, false), (23, 9, false), (23, 10, true), (23, 11, false), (23, 12, false), (23, 13, false), (23, 14, false), (23, 15, false), (23, 16, false), (23, 17, false), (23, 18, false), (23, 19, false), (23, 20, false), (23, 21, false), (23, 22, false), (23, 23, true), (23, 24, false)]
def subTab10 : List (Nat × Nat × Bool) := [(23, 25, false), (23, 26, false), (23, 27, false), (23, 28, false), (23, 29, false), (23, 30, false), (23, 31, false), (23, 32, false), (24, 0, false), (24, 1, false), (24, 2, false), (24, 3, false), (24, 4, false), (24, 5, false), (24, 7, true), (24, 8, false), (24, 9, false), (24, 10, true), (24, 11, false), (24, 12, false), (24, 13, false), (24, 14, false), (24, 15, false), (24, 16, false), (24, 17, false), (24, 18, false), (24, 19, false), (24, 20, false), (24, 21, false), (24, 22, false), (24, 23, false), (24, 24, true), (24, 25, false), (24, 26, false), (24, 27, false), (24, 28, false), (24, 29, false), (24, 30, false), (24, 31, false), (24, 32, false), (25, 0, false), (25, 1, false), (25, 2, false), (25, 3, false), (25, 4, false), (25, 5, false), (25, 7, true), (25, 8, false), (25, 9, false), (25, 10, true), (25, 11, false), (25, 12, false), (25, 13, false), (25, 14, false), (25, 15, false), (25, 16, false), (25, 17, false), (25, 18, false), (25, 19, false), (25, 20, false)]
def subTab11 : List (Nat × Nat × Bool) := [(25, 21, false), (25, 22, false), (25, 23, false), (25, 24, false), (25, 25, true), (25, 26, false), (25, 27, false), (25, 28, false), (25, 29, false), (25, 30, false), (25, 31, false), (25, 32, false), (26, 0, false), (26, 1, false), (26, 2, false), (26, 3, false), (26, 4, false), (26, 5, false), (26, 7, true), (26, 8, false), (26, 9, false), (26, 10, true), (26, 11, false), (26, 12, false), (26, 13, false), (26, 14, false), (26, 15, false), (26, 16, false), (26, 17, false), (26, 18, false), (26, 19, false), (26, 20, false), (26, 21, false), (26, 22, false), (26, 23, false), (26, 24, false), (26, 25, false), (26, 26, true), (26, 27, false), (26, 28, false), (26, 29, false), (26, 30, false), (26, 31, false), (26, 32, false), (27, 0, false), (27, 1, false), (27, 2, false), (27, 3, false), (27, 4, false), (27, 5, false), (27, 7, true), (27, 8, false), (27, 9, false), (27, 10, true), (27, 11, false), (27, 12, false), (27, 13, false), (27, 14, false), (27, 15, false), (27, 16, false)]
def subTab12 : List (Nat × Nat × Bool) := [(27, 17, false), (27, 18, false), (27, 19, false), (27, 20, false), (27, 21, false), (27, 22, false), (27, 23, false), (27, 24, false), (27, 25, false), (27, 26, false), (27, 27, true), (27, 28, false), (27, 29, false), (27, 30, false), (27, 31, false), (27, 32, false), (28, 0, false), (28, 1, false), (28, 2, false), (28, 3, false), (28, 4, false), (28, 5, false), (28, 7, true), (28, 8, false), (28, 9, false), (28, 10, true), (28, 11, false), (28, 12, false), (28, 13, false), (28, 14, false), (28, 15, false), (28, 16, false), (28, 17, false), (28, 18, false), (28, 19, false), (28, 20, false), (28, 21, false), (28, 22, false), (28, 23, false), (28, 24, false), (28, 25, false), (28, 26, false), (28, 27, false), (28, 28, true), (28, 29, false), (28, 30, false), (28, 31, false), (28, 32, false), (29, 0, false), (29, 1, false), (29, 2, false), (29, 3, false), (29, 4, false), (29, 5, false), (29, 7, true), (29, 8, false), (29, 9, false), (29, 10, true), (29, 11, false), (29, 12, false)]
def subTab13 : List (Nat × Nat × Bool) := [(29, 13, false), (29, 14, false), (29, 15, false), (29, 16, false), (29, 17, false), (29, 18, false), (29, 19, false), (29, 20, false), (29, 21, false), (29, 22, false), (29, 23, false), (29, 24, false), (29, 25, false), (29, 26, false), (29, 27, false), (29, 28, false), (29, 29, true), (29, 30, false), (29, 31, false), (29, 32, false), (30, 0, false), (30, 1, false), (30, 2, false), (30, 3, false), (30, 4, false), (30, 5, false), (30, 7, false), (30, 8, true), (30, 9, false), (30, 10, false), (30, 11, true), (30, 12, false), (30, 13, false), (30, 14, false), (30, 15, false), (30, 16, false), (30, 17, false), (30, 18, false), (30, 19, false), (30, 20, false), (30, 21, false), (30, 22, false), (30, 23, false), (30, 24, false), (30, 25, false), (30, 26, false), (30, 27, false), (30, 28, false), (30, 29, false), (30, 30, true), (30, 31, false), (30, 32, false), (31, 0, false), (31, 1, false), (31, 2, false), (31, 3, false), (31, 4, false), (31, 5, false), (31, 7, false), (31, 8, true)]
def subTab14 : List (Nat × Nat × Bool) := [(31, 9, false), (31, 10, false), (31, 11, true), (31, 12, false), (31, 13, false), (31, 14, false), (31, 15, false), (31, 16, false), (31, 17, false), (31, 18, false), (31, 19, false), (31, 20, false), (31, 21, false), (31, 22, false), (31, 23, false), (31, 24, false), (31, 25, false), (31, 26, false), (31, 27, false), (31, 28, false), (31, 29, false), (31, 30, false), (31, 31, true), (31, 32, false), (32, 0, false), (32, 1, false), (32, 2, false), (32, 3, false), (32, 4, false), (32, 5, false), (32, 7, false), (32, 8, true), (32, 9, true), (32, 10, false), (32, 11, false), (32, 12, false), (32, 13, false), (32, 14, false), (32, 15, false), (32, 16, false), (32, 17, false), (32, 18, false), (32, 19, false), (32, 20, false), (32, 21, false), (32, 22, false), (32, 23, false), (32, 24, false), (32, 25, false), (32, 26, false), (32, 27, false), (32, 28, false), (32, 29, false), (32, 30, false), (32, 31, false), (32, 32, true)]
def subTab : List (Nat × Nat × Bool) := subTab0 ++ subTab1 ++ subTab2 ++ subTab3 ++ subTab4 ++ subTab5 ++ subTab6 ++ subTab7 ++ subTab8 ++ subTab9 ++ subTab10 ++ subTab11 ++ subTab12 ++ subTab13 ++ subTab14
def subT (k t : Nat) : Option Bool := (subTab.find? fun e => e.1 == k && e.2.1 == t).map (·.2.2)
def flds : List Str := ["tag", "given", "at", "name", "first", "many", "answer", "label", "most"]
def B : Tb := { fn := fT, glb := fun _ => none, meth := fun _ _ => none, bop := fun _ _ => none, cop := fun _ _ => none, init := fun _ => none, fok := fun _ _ => false, xok := xokT, xin := xinT, sub := subT }
def cxT (K : Frag) : Nat → Option Addr
  | 2 => some (He.ga K "InvalidRatio")
  | 3 => some (He.ga K "InvalidRow")
  | 4 => some (He.ga K "InvalidName")
  | 5 => some (He.ga K "InvalidTie")
  | 6 => some (He.ga K "InvalidWish")
  | 7 => some (He.ga K "InvalidTimes")
  | 8 => some (He.ga K "InvalidLimit")
  | 9 => some (He.ga K "InvalidCommand")
  | 10 => some (He.ga K "NotTied")
  | 11 => some (He.ga K "SameName")
  | 12 => some (He.ga K "NamesDiffer")
  | 13 => some (He.ga K "EmptyFigure")
  | 14 => some (He.ga K "Impossible")
  | 15 => some (He.ga K "Possible")
  | 16 => some (He.ga K "NotImplied")
  | 17 => some (He.ga K "ParseError")
  | 18 => some (He.ga K "DuplicateLabel")
  | 19 => some (He.ga K "CapacityExceeded")
  | 20 => some (He.ga K "UnknownName")
  | 21 => some (He.ga K "UnknownLabel")
  | 22 => some (He.ga K "NothingLeft")
  | _ => none
def cbT (K : Frag) : Nat → Option Addr
  | 1 => some (He.ga K "Missing")
  | 0 => some (He.ga K "TieError")
  | _ => none
abbrev Mn (K : Frag) : Nm := { K := K, CA := fun _ => none, CX := cxT K, CB := cbT K, fn := fnN flds }
structure Gx (P : Program) (w : World) (K : Frag) (mg : Str → Option Value) (base : Heap) : Prop where
  n_IndexError : mg "IndexError" = none
  n_LookupError : mg "LookupError" = none
  n_ValueError : mg "ValueError" = none
  n_all : mg "all" = none
  n_bool : mg "bool" = none
  n_dict : mg "dict" = none
  n_int : mg "int" = none
  n_isinstance : mg "isinstance" = none
  n_len : mg "len" = none
  n_list : mg "list" = none
  n_range : mg "range" = none
  n_sorted : mg "sorted" = none
  n_str : mg "str" = none
  n_super : mg "super" = none
  n_tuple : mg "tuple" = none
  n_zip : mg "zip" = none
  g_CapacityExceeded : mg "CapacityExceeded" = some (.ref (He.ga K "CapacityExceeded"))
  g_DuplicateLabel : mg "DuplicateLabel" = some (.ref (He.ga K "DuplicateLabel"))
  g_EmptyFigure : mg "EmptyFigure" = some (.ref (He.ga K "EmptyFigure"))
  g_Impossible : mg "Impossible" = some (.ref (He.ga K "Impossible"))
  g_InvalidCommand : mg "InvalidCommand" = some (.ref (He.ga K "InvalidCommand"))
  g_InvalidLimit : mg "InvalidLimit" = some (.ref (He.ga K "InvalidLimit"))
  g_InvalidName : mg "InvalidName" = some (.ref (He.ga K "InvalidName"))
  g_InvalidRatio : mg "InvalidRatio" = some (.ref (He.ga K "InvalidRatio"))
  g_InvalidRow : mg "InvalidRow" = some (.ref (He.ga K "InvalidRow"))
  g_InvalidTie : mg "InvalidTie" = some (.ref (He.ga K "InvalidTie"))
  g_InvalidTimes : mg "InvalidTimes" = some (.ref (He.ga K "InvalidTimes"))
  g_InvalidWish : mg "InvalidWish" = some (.ref (He.ga K "InvalidWish"))
  g_Missing : mg "Missing" = some (.ref (He.ga K "Missing"))
  g_NamesDiffer : mg "NamesDiffer" = some (.ref (He.ga K "NamesDiffer"))
  g_NotImplied : mg "NotImplied" = some (.ref (He.ga K "NotImplied"))
  g_NotTied : mg "NotTied" = some (.ref (He.ga K "NotTied"))
  g_NothingLeft : mg "NothingLeft" = some (.ref (He.ga K "NothingLeft"))
  g_ParseError : mg "ParseError" = some (.ref (He.ga K "ParseError"))
  g_Possible : mg "Possible" = some (.ref (He.ga K "Possible"))
  g_SameName : mg "SameName" = some (.ref (He.ga K "SameName"))
  g_TieError : mg "TieError" = some (.ref (He.ga K "TieError"))
  g_UnknownLabel : mg "UnknownLabel" = some (.ref (He.ga K "UnknownLabel"))
  g_UnknownName : mg "UnknownName" = some (.ref (He.ga K "UnknownName"))
  cls : ∀ X : Cx, X.K = K → ClsOk X (Mn K) B
  isi : ∀ X : Cx, X.K = K → IsiOk X (Mn K) B
  inj : (Mn K).Inj
  x_InvalidRatio : XCal P w K mg base (Mn K) B "InvalidRatio" 2 1
  x_InvalidRow : XCal P w K mg base (Mn K) B "InvalidRow" 3 1
  x_InvalidName : XCal P w K mg base (Mn K) B "InvalidName" 4 1
  x_InvalidTie : XCal P w K mg base (Mn K) B "InvalidTie" 5 1
  x_InvalidWish : XCal P w K mg base (Mn K) B "InvalidWish" 6 1
  x_InvalidTimes : XCal P w K mg base (Mn K) B "InvalidTimes" 7 1
  x_InvalidLimit : XCal P w K mg base (Mn K) B "InvalidLimit" 8 1
  x_InvalidCommand : XCal P w K mg base (Mn K) B "InvalidCommand" 9 1
  x_NotTied : XCal P w K mg base (Mn K) B "NotTied" 10 1
  x_SameName : XCal P w K mg base (Mn K) B "SameName" 11 1
  x_NamesDiffer : XCal P w K mg base (Mn K) B "NamesDiffer" 12 0
  x_EmptyFigure : XCal P w K mg base (Mn K) B "EmptyFigure" 13 0
  x_Impossible : XCal P w K mg base (Mn K) B "Impossible" 14 0
  x_Possible : XCal P w K mg base (Mn K) B "Possible" 15 1
  x_NotImplied : XCal P w K mg base (Mn K) B "NotImplied" 16 1
  x_ParseError : XCal P w K mg base (Mn K) B "ParseError" 17 1
  x_DuplicateLabel : XCal P w K mg base (Mn K) B "DuplicateLabel" 18 1
  x_CapacityExceeded : XCal P w K mg base (Mn K) B "CapacityExceeded" 19 1
  x_UnknownName : XCal P w K mg base (Mn K) B "UnknownName" 20 1
  x_UnknownLabel : XCal P w K mg base (Mn K) B "UnknownLabel" 21 1
  x_NothingLeft : XCal P w K mg base (Mn K) B "NothingLeft" 22 0
structure Gf (P : Program) (w : World) (K : Frag) (mg : Str → Option Value) (base : Heap) (n : Nat) : Prop extends Gx P w K mg base where
  f__law_feed : Cal P w K mg base (Mn K) B n "_law_feed" 0 1
  f__law_draw : Cal P w K mg base (Mn K) B n "_law_draw" 1 2
  f__law_any : Cal P w K mg base (Mn K) B n "_law_any" 2 2
  f__law_same : Cal P w K mg base (Mn K) B n "_law_same" 3 2
  f__law_made_errors : Cal P w K mg base (Mn K) B n "_law_made_errors" 4 2
  f__law_flags : Cal P w K mg base (Mn K) B n "_law_flags" 5 1
  f__law_value_of : Cal P w K mg base (Mn K) B n "_law_value_of" 6 1
  f_law : Cal P w K mg base (Mn K) B n "law" 7 1
section
variable {P : Program} {w : World} {K : Frag} {mg : Str → Option Value} {base : Heap} {n : Nat} {fa : Addr} {fd : FuncData}
theorem ok__law_feed (G : Gf P w K mg base n) (F : FunD K "_law_feed" "_law_feed" (defArgs (top 25)) (defBody (top 25)) (defScope (top 25)) [] [] fa fd) : FnOk P w K mg base CX0 (2 * (n + 1) + 2) fa fd ["_law_script"] (spF (Mn K) B (evC B (n + 1)) 0) := by
  refine fn_okR (fn := ⟨4, 1, none, b__law_feed⟩) (N := N__law_feed) F ⟨by kernel_rfl, by kernel_rfl, by kernel_rfl, by decide +kernel, by kernel_rfl, by decide +kernel, by decide +kernel⟩ rfl rfl rfl (by decide) rfl fun cdv A outer s H E hr => ?_
  have ND : N__law_feed.Nodup := by decide +kernel
  have hu : (A.deeper (envOfC "_law_feed" (defScope (top 25)) s.heap.objs.size fa cdv)).units + 64 < cLine := by have := hr.un; omega
  have hu1 : (A.deeper (envOfC "_law_feed" (defScope (top 25)) s.heap.objs.size fa cdv)).units + 1 < cLine := by have := hr.un; omega
  exact (pss_consR (ps_setLcR (i := 1) rfl ND rfl (by kernel_rfl) (by first | rfl | kernel_rfl) (own := [("_law_cell", 3)]) (pi_seqR rfl (rx_re (re_sl rfl (re_rb (re_var (i := 0) rfl (.inl (by kernel_rfl)) rfl rfl)) po_no (po_so (re_rb re_int) nn_int)))) (blkOk_by (by kernel_rfl)) (by decide) (fun _ _ _ _ _ => (pg_nm ND (i := 3) rfl (.inl (by kernel_rfl)) (.inr (by kernel_rfl)))) (fun _ _ _ _ _ => pts_nilR) (fun _ _ _ _ _ => (rx_re (rx_ty (bi_int) rfl G.n_int bt_int (by decide) (by decide) (pa_consB (re_rb (re_var (i := 3) rfl (.inl (by kernel_rfl)) rfl rfl)) pa_nilB rfl) rfl))) (fun _ => rfl))
    (pss_consR (ps_asgR ND (i := 2) rfl (.inl (by kernel_rfl)) (rx_re (rx_bin br_add (ObjR.none fun _ _ => rfl) (re_rb re_int) (re_rb (rx_re (rx_bin br_mul (ObjR.none fun _ _ => rfl) (re_rb re_int) (re_rb (rx_re (rx_bi (bi_len rfl) rfl G.n_len bt_len (by decide) (by decide) (pa_consB (re_rb (re_var (i := 1) rfl (.inl (by kernel_rfl)) rfl rfl)) pa_nilB rfl) rfl)))))))) rfl (.inl rfl))
    (pss_consR (ps_forR PassesOwn.never rfl (pi_seqR rfl (re_var (i := 1) rfl (.inl (by kernel_rfl)) rfl rfl)) (pg_nm ND (i := 3) rfl (.inl (by kernel_rfl)) (.inl rfl)) (pss_consR (ps_asgR ND (i := 2) rfl (.inl (by kernel_rfl)) (rx_re (rx_bin br_mod (ObjR.none fun _ _ => rfl) (re_rb (rx_re (rx_ty (bi_int) rfl G.n_int bt_int (by decide) (by decide) (pa_consB (re_rb (rx_re (rx_bin br_add (ObjR.none fun _ _ => rfl) (re_rb (rx_re (rx_bin br_mul (ObjR.none fun _ _ => rfl) (re_rb (re_var (i := 2) rfl (.inl (by kernel_rfl)) rfl rfl)) (re_rb re_int)))) (re_rb (re_var (i := 3) rfl (.inl (by kernel_rfl)) rfl rfl))))) pa_nilB rfl) rfl))) (re_rb re_int))) rfl (.inl rfl))
    pss_nilR) (fun _ => rfl))
    (pss_consR (ps_retR (re_newc (pa_consA (re_var (i := 1) rfl (.inl (by kernel_rfl)) rfl rfl) (pa_consA re_int (pa_consA re_int (pa_consA (re_var (i := 2) rfl (.inl (by kernel_rfl)) rfl rfl) pa_nilA rfl) rfl) rfl) rfl)))
    pss_nilR))))
theorem ok__law_draw (G : Gf P w K mg base n) (F : FunD K "_law_draw" "_law_draw" (defArgs (top 26)) (defBody (top 26)) (defScope (top 26)) [] [] fa fd) : FnOk P w K mg base CX0 (2 * (n + 1) + 2) fa fd ["_law_feed_here", "_law_many"] (spF (Mn K) B (evC B (n + 1)) 1) := by
  refine fn_okR (fn := ⟨6, 2, none, b__law_draw⟩) (N := N__law_draw) F ⟨by kernel_rfl, by kernel_rfl, by kernel_rfl, by decide +kernel, by kernel_rfl, by decide +kernel, by decide +kernel⟩ rfl rfl rfl (by decide) rfl fun cdv A outer s H E hr => ?_
  have ND : N__law_draw.Nodup := by decide +kernel
  have hu : (A.deeper (envOfC "_law_draw" (defScope (top 26)) s.heap.objs.size fa cdv)).units + 64 < cLine := by have := hr.un; omega
  have hu1 : (A.deeper (envOfC "_law_draw" (defScope (top 26)) s.heap.objs.size fa cdv)).units + 1 < cLine := by have := hr.un; omega
  exact (pss_consR (ps_ifR (pt_cmpT cr_lt (ObjC.none fun _ _ => rfl) (plain_or (by decide)) rfl (re_rb (re_idx rfl hu1 (fun _ _ => rfl) (fun _ _ => rfl) (re_rb (re_var (i := 0) rfl (.inl (by kernel_rfl)) rfl rfl)) (re_rb re_int))) (re_rb re_int)) (pss_consR (ps_putR (rx_re (rx_bin br_add (ObjR.none fun _ _ => rfl) (re_rb (re_idx rfl hu1 (fun _ _ => rfl) (fun _ _ => rfl) (re_rb (re_var (i := 0) rfl (.inl (by kernel_rfl)) rfl rfl)) (re_rb re_int))) (re_rb re_int))) (re_var (i := 0) rfl (.inl (by kernel_rfl)) rfl rfl) re_int rfl rfl (fun _ => rfl))
    (pss_consR (ps_asgR ND (i := 2) rfl (.inl (by kernel_rfl)) (rx_re (rx_bin br_add (ObjR.none fun _ _ => rfl) (re_rb (re_idx rfl hu1 (fun _ _ => rfl) (fun _ _ => rfl) (re_rb (re_var (i := 0) rfl (.inl (by kernel_rfl)) rfl rfl)) (re_rb re_int))) (re_rb (rx_re (rx_bin br_mul (ObjR.none fun _ _ => rfl) (re_rb (re_idx rfl hu1 (fun _ _ => rfl) (fun _ _ => rfl) (re_rb (re_var (i := 0) rfl (.inl (by kernel_rfl)) rfl rfl)) (re_rb re_int))) (re_rb re_int)))))) rfl (.inl rfl))
    (pss_consR (ps_ifR (pt_cmpT (cr_int op_le) (ObjC.none fun _ _ => rfl) (plain_or (by decide)) rfl (re_rb (re_idx rfl hu1 (fun _ _ => rfl) (fun _ _ => rfl) (re_rb (re_var (i := 0) rfl (.inl (by kernel_rfl)) rfl rfl)) (re_rb re_int))) (re_rb (rx_re (rx_bi (bi_len rfl) rfl G.n_len bt_len (by decide) (by decide) (pa_consB (re_rb (re_idx rfl hu1 (fun _ _ => rfl) (fun _ _ => rfl) (re_rb (re_var (i := 0) rfl (.inl (by kernel_rfl)) rfl rfl)) (re_rb re_int))) pa_nilB rfl) rfl)))) (pss_consR (ps_asgR ND (i := 2) rfl (.inl (by kernel_rfl)) (re_idx rfl hu1 (fun _ _ => rfl) (fun _ _ => rfl) (re_rb (re_idx rfl hu1 (fun _ _ => rfl) (fun _ _ => rfl) (re_rb (re_var (i := 0) rfl (.inl (by kernel_rfl)) rfl rfl)) (re_rb re_int))) (re_rb (rx_re (rx_bin br_sub (ObjR.none fun _ _ => rfl) (re_rb (re_idx rfl hu1 (fun _ _ => rfl) (fun _ _ => rfl) (re_rb (re_var (i := 0) rfl (.inl (by kernel_rfl)) rfl rfl)) (re_rb re_int))) (re_rb re_int))))) rfl (.inl rfl))
    pss_nilR) pss_nilR)
    (pss_consR (ps_ifR (pt_w (pw_orR (pt_cmpT (cr_int op_gt) (ObjC.none fun _ _ => rfl) (plain_or (by decide)) rfl (re_rb (re_idx rfl hu1 (fun _ _ => rfl) (fun _ _ => rfl) (re_rb (re_var (i := 0) rfl (.inl (by kernel_rfl)) rfl rfl)) (re_rb re_int))) (re_rb (rx_re (rx_bi (bi_len rfl) rfl G.n_len bt_len (by decide) (by decide) (pa_consB (re_rb (re_idx rfl hu1 (fun _ _ => rfl) (fun _ _ => rfl) (re_rb (re_var (i := 0) rfl (.inl (by kernel_rfl)) rfl rfl)) (re_rb re_int))) pa_nilB rfl) rfl)))) (pw_orL (pt_cmpT cr_lt (ObjC.none fun _ _ => rfl) (plain_or (by decide)) rfl (re_rb (re_var (i := 2) rfl (.inl (by kernel_rfl)) rfl rfl)) (re_rb (re_pow (by decide))))))) (pss_consR (ps_asgR ND (i := 3) rfl (.inl (by kernel_rfl)) (rx_re (rx_bin br_mod (ObjR.none fun _ _ => rfl) (re_rb (rx_re (rx_ty (bi_int) rfl G.n_int bt_int (by decide) (by decide) (pa_consB (re_rb (rx_re (rx_bin br_add (ObjR.none fun _ _ => rfl) (re_rb (rx_re (rx_bin br_add (ObjR.none fun _ _ => rfl) (re_rb (rx_re (rx_bin br_mul (ObjR.none fun _ _ => rfl) (re_rb (re_var (i := 2) rfl (.inl (by kernel_rfl)) rfl rfl)) (re_rb re_int)))) (re_rb (rx_re (rx_bin br_mul (ObjR.none fun _ _ => rfl) (re_rb (re_idx rfl hu1 (fun _ _ => rfl) (fun _ _ => rfl) (re_rb (re_var (i := 0) rfl (.inl (by kernel_rfl)) rfl rfl)) (re_rb re_int))) (re_rb re_int))))))) (re_rb (re_idx rfl hu1 (fun _ _ => rfl) (fun _ _ => rfl) (re_rb (re_var (i := 0) rfl (.inl (by kernel_rfl)) rfl rfl)) (re_rb re_int)))))) pa_nilB rfl) rfl))) (re_rb re_int))) rfl (.inl rfl))
    (pss_consR (ps_asgR ND (i := 4) rfl (.inl (by kernel_rfl)) (rx_re (rx_bin br_mod (ObjR.none fun _ _ => rfl) (re_rb (rx_re (rx_ty (bi_int) rfl G.n_int bt_int (by decide) (by decide) (pa_consB (re_rb (rx_re (rx_bin br_add (ObjR.none fun _ _ => rfl) (re_rb (rx_re (rx_bin br_mul (ObjR.none fun _ _ => rfl) (re_rb (re_var (i := 3) rfl (.inl (by kernel_rfl)) rfl rfl)) (re_rb (re_var (i := 3) rfl (.inl (by kernel_rfl)) rfl rfl))))) (re_rb (rx_re (rx_bin br_mul (ObjR.none fun _ _ => rfl) (re_rb (re_idx rfl hu1 (fun _ _ => rfl) (fun _ _ => rfl) (re_rb (re_var (i := 0) rfl (.inl (by kernel_rfl)) rfl rfl)) (re_rb re_int))) (re_rb re_int))))))) pa_nilB rfl) rfl))) (re_rb re_int))) rfl (.inl rfl))
    (pss_consR (ps_retR (rx_re (rx_bin br_mod (ObjR.none fun _ _ => rfl) (re_rb (rx_re (rx_bin br_fdiv (ObjR.none fun _ _ => rfl) (re_rb (rx_re (rx_bin br_mod (ObjR.none fun _ _ => rfl) (re_rb (rx_re (rx_ty (bi_int) rfl G.n_int bt_int (by decide) (by decide) (pa_consB (re_rb (rx_re (rx_bin br_add (ObjR.none fun _ _ => rfl) (re_rb (rx_re (rx_bin br_mul (ObjR.none fun _ _ => rfl) (re_rb (re_var (i := 4) rfl (.inl (by kernel_rfl)) rfl rfl)) (re_rb re_int)))) (re_rb (re_var (i := 3) rfl (.inl (by kernel_rfl)) rfl rfl))))) pa_nilB rfl) rfl))) (re_rb re_int)))) (re_rb re_int)))) (re_rb (re_var (i := 1) rfl (.inl (by kernel_rfl)) rfl rfl)))))
    pss_nilR))) pss_nilR)
    (pss_consR (ps_putR (re_var (i := 2) rfl (.inl (by kernel_rfl)) rfl rfl) (re_var (i := 0) rfl (.inl (by kernel_rfl)) rfl rfl) re_int rfl rfl (fun _ => rfl))
    pss_nilR))))) pss_nilR)
    (pss_consR (ps_asgR ND (i := 5) rfl (.inl (by kernel_rfl)) (rx_re (rx_bin br_mod (ObjR.none fun _ _ => rfl) (re_rb (rx_re (rx_ty (bi_int) rfl G.n_int bt_int (by decide) (by decide) (pa_consB (re_rb (re_idx rfl hu1 (fun _ _ => rfl) (fun _ _ => rfl) (re_rb (re_var (i := 0) rfl (.inl (by kernel_rfl)) rfl rfl)) (re_rb re_int))) pa_nilB rfl) rfl))) (re_rb (re_var (i := 1) rfl (.inl (by kernel_rfl)) rfl rfl)))) rfl (.inl rfl))
    (pss_consR (ps_putR (rx_re (rx_bin br_fdiv (ObjR.none fun _ _ => rfl) (re_rb (rx_re (rx_ty (bi_int) rfl G.n_int bt_int (by decide) (by decide) (pa_consB (re_rb (re_idx rfl hu1 (fun _ _ => rfl) (fun _ _ => rfl) (re_rb (re_var (i := 0) rfl (.inl (by kernel_rfl)) rfl rfl)) (re_rb re_int))) pa_nilB rfl) rfl))) (re_rb (re_var (i := 1) rfl (.inl (by kernel_rfl)) rfl rfl)))) (re_var (i := 0) rfl (.inl (by kernel_rfl)) rfl rfl) re_int rfl rfl (fun _ => rfl))
    (pss_consR (ps_retR (re_var (i := 5) rfl (.inl (by kernel_rfl)) rfl rfl))
    pss_nilR))))
theorem ok__law_any (G : Gf P w K mg base n) (F : FunD K "_law_any" "_law_any" (defArgs (top 27)) (defBody (top 27)) (defScope (top 27)) [] [] fa fd) : FnOk P w K mg base CX0 (2 * (n + 1) + 2) fa fd ["_law_feed_here", "_law_row"] (spF (Mn K) B (evC B (n + 1)) 2) := by
  refine fn_okR (fn := ⟨2, 2, none, b__law_any⟩) (N := N__law_any) F ⟨by kernel_rfl, by kernel_rfl, by kernel_rfl, by decide +kernel, by kernel_rfl, by decide +kernel, by decide +kernel⟩ rfl rfl rfl (by decide) rfl fun cdv A outer s H E hr => ?_
  have ND : N__law_any.Nodup := by decide +kernel
  have hu : (A.deeper (envOfC "_law_any" (defScope (top 27)) s.heap.objs.size fa cdv)).units + 64 < cLine := by have := hr.un; omega
  have hu1 : (A.deeper (envOfC "_law_any" (defScope (top 27)) s.heap.objs.size fa cdv)).units + 1 < cLine := by have := hr.un; omega
  exact (pss_consR (ps_retR (re_idx rfl hu1 (fun _ _ => rfl) (fun _ _ => rfl) (re_rb (re_var (i := 1) rfl (.inl (by kernel_rfl)) rfl rfl)) (re_rb (re_callN (G.f__law_draw) hr rfl rfl rfl (pa_consA (re_var (i := 0) rfl (.inl (by kernel_rfl)) rfl rfl) (pa_consA (rx_re (rx_bi (bi_len rfl) rfl G.n_len bt_len (by decide) (by decide) (pa_consB (re_rb (re_var (i := 1) rfl (.inl (by kernel_rfl)) rfl rfl)) pa_nilB rfl) rfl)) pa_nilA rfl) rfl) rfl rfl))))
    pss_nilR)
theorem ok__law_same (G : Gf P w K mg base n) (F : FunD K "_law_same" "_law_same" (defArgs (top 28)) (defBody (top 28)) (defScope (top 28)) [] [] fa fd) : FnOk P w K mg base CX0 (2 * (n + 1) + 2) fa fd ["_law_found", "_law_due"] (spF (Mn K) B (evC B (n + 1)) 3) := by
  refine fn_okR (fn := ⟨5, 2, none, b__law_same⟩) (N := N__law_same) F ⟨by kernel_rfl, by kernel_rfl, by kernel_rfl, by decide +kernel, by kernel_rfl, by decide +kernel, by decide +kernel⟩ rfl rfl rfl (by decide) rfl fun cdv A outer s H E hr => ?_
  have ND : N__law_same.Nodup := by decide +kernel
  have hu : (A.deeper (envOfC "_law_same" (defScope (top 28)) s.heap.objs.size fa cdv)).units + 64 < cLine := by have := hr.un; omega
  have hu1 : (A.deeper (envOfC "_law_same" (defScope (top 28)) s.heap.objs.size fa cdv)).units + 1 < cLine := by have := hr.un; omega
  exact (pss_consR (ps_ifR (pt_cmpT cr_isN (ObjC.none fun _ _ => rfl) (plain_or (by decide)) rfl (re_rb (re_var (i := 1) rfl (.inr (.inl (by kernel_rfl))) rfl rfl)) (re_rb re_non)) (pss_consR (ps_retR (re_cmp cr_isN (ObjC.none fun _ _ => rfl) (plain_or (by decide)) rfl (re_rb (re_var (i := 0) rfl (.inr (.inl (by kernel_rfl))) rfl rfl)) (re_rb re_non)))
    pss_nilR) pss_nilR)
    (pss_consR (ps_ifR (pt_w (pw_orR (pt_of (re_rb (re_isi rfl (G.isi _ rfl) rfl G.n_isinstance (clsn_ty rfl G.n_bool bt_bool (by decide) (by decide) rfl) (re_rb (re_var (i := 1) rfl (.inr (.inl (by kernel_rfl))) rfl rfl)) rfl)) (fun _ => rfl)) (pw_orL (pt_of (re_rb (re_isi rfl (G.isi _ rfl) rfl G.n_isinstance (clsn_ty rfl G.n_bool bt_bool (by decide) (by decide) rfl) (re_rb (re_var (i := 0) rfl (.inr (.inl (by kernel_rfl))) rfl rfl)) rfl)) (fun _ => rfl))))) (pss_consR (ps_retR (re_and (re_rb (re_isi rfl (G.isi _ rfl) rfl G.n_isinstance (clsn_ty rfl G.n_bool bt_bool (by decide) (by decide) rfl) (re_rb (re_var (i := 1) rfl (.inr (.inl (by kernel_rfl))) rfl rfl)) rfl)) (re_and (re_rb (re_isi rfl (G.isi _ rfl) rfl G.n_isinstance (clsn_ty rfl G.n_bool bt_bool (by decide) (by decide) rfl) (re_rb (re_var (i := 0) rfl (.inr (.inl (by kernel_rfl))) rfl rfl)) rfl)) (re_one (re_cmp (cr_eq rfl hu) (ObjC.none fun _ _ => rfl) (plain_or (by decide)) rfl (re_rb (re_var (i := 0) rfl (.inr (.inl (by kernel_rfl))) rfl rfl)) (re_rb (re_var (i := 1) rfl (.inr (.inl (by kernel_rfl))) rfl rfl)))))))
    pss_nilR) pss_nilR)
    (pss_consR (ps_ifR (pt_of (re_rb (re_isiT rfl (G.isi _ rfl) rfl G.n_isinstance (.cons (clsn_ty rfl G.n_int bt_int (by decide) (by decide) rfl) (.cons (clsn_ty rfl G.n_str bt_str (by decide) (by decide) rfl) .nil rfl) rfl) (re_rb (re_var (i := 1) rfl (.inr (.inl (by kernel_rfl))) rfl rfl)) rfl (by simp [sizeLine_eq]))) (fun _ => rfl)) (pss_consR (ps_retR (re_and (re_rb (re_isiT rfl (G.isi _ rfl) rfl G.n_isinstance (.cons (clsn_ty rfl G.n_int bt_int (by decide) (by decide) rfl) (.cons (clsn_ty rfl G.n_str bt_str (by decide) (by decide) rfl) .nil rfl) rfl) (re_rb (re_var (i := 0) rfl (.inr (.inl (by kernel_rfl))) rfl rfl)) rfl (by simp [sizeLine_eq]))) (re_and (re_rb (re_cmp (cr_eq rfl hu) (ObjC.none fun _ _ => rfl) (plain_or (by decide)) rfl (re_rb (re_isi rfl (G.isi _ rfl) rfl G.n_isinstance (clsn_ty rfl G.n_int bt_int (by decide) (by decide) rfl) (re_rb (re_var (i := 0) rfl (.inr (.inl (by kernel_rfl))) rfl rfl)) rfl)) (re_rb (re_isi rfl (G.isi _ rfl) rfl G.n_isinstance (clsn_ty rfl G.n_int bt_int (by decide) (by decide) rfl) (re_rb (re_var (i := 1) rfl (.inr (.inl (by kernel_rfl))) rfl rfl)) rfl)))) (re_one (re_cmp (cr_eq rfl hu) (ObjC.none fun _ _ => rfl) (plain_or (by decide)) rfl (re_rb (re_var (i := 0) rfl (.inr (.inl (by kernel_rfl))) rfl rfl)) (re_rb (re_var (i := 1) rfl (.inr (.inl (by kernel_rfl))) rfl rfl)))))))
    pss_nilR) pss_nilR)
    (pss_consR (ps_ifR (pt_of (re_rb (re_isi rfl (G.isi _ rfl) rfl G.n_isinstance (clsn_ty rfl G.n_dict bt_dict (by decide) (by decide) rfl) (re_rb (re_var (i := 1) rfl (.inr (.inl (by kernel_rfl))) rfl rfl)) rfl)) (fun _ => rfl)) (pss_consR (ps_ifR (pt_w (pw_orR (pt_notR (pt_of (re_rb (re_isi rfl (G.isi _ rfl) rfl G.n_isinstance (clsn_ty rfl G.n_dict bt_dict (by decide) (by decide) rfl) (re_rb (re_var (i := 0) rfl (.inr (.inl (by kernel_rfl))) rfl rfl)) rfl)) (fun _ => rfl))) (pw_orL (pt_cmpT (cr_ne rfl hu) (ObjC.none fun _ _ => rfl) (plain_or (by decide)) rfl (re_rb (rx_re (rx_bi (bi_sorted rfl rfl) rfl G.n_sorted bt_sorted (by decide) (by decide) (pa_consB (re_rb (rx_re (rx_ty (bi_list rfl rfl) rfl G.n_list bt_list (by decide) (by decide) (pa_consB (re_rb (re_var (i := 0) rfl (.inr (.inl (by kernel_rfl))) rfl rfl)) pa_nilB rfl) rfl))) pa_nilB rfl) rfl))) (re_rb (rx_re (rx_bi (bi_sorted rfl rfl) rfl G.n_sorted bt_sorted (by decide) (by decide) (pa_consB (re_rb (rx_re (rx_ty (bi_list rfl rfl) rfl G.n_list bt_list (by decide) (by decide) (pa_consB (re_rb (re_var (i := 1) rfl (.inr (.inl (by kernel_rfl))) rfl rfl)) pa_nilB rfl) rfl))) pa_nilB rfl) rfl))))))) (pss_consR (ps_retR re_bl)
    pss_nilR) pss_nilR)
    (pss_consR (ps_retR (rx_re (rx_bi (bi_all rfl rfl) rfl G.n_all bt_all (by decide) (by decide) (pa_consB (re_rb (rx_re (rx_lc rfl ND (own := [("_law_key", 2)]) (pi_seqR rfl (re_var (i := 1) rfl (.inr (.inl (by kernel_rfl))) rfl rfl)) (blkOk_by (by kernel_rfl)) (by decide) (fun _ _ _ _ _ => (pg_nm ND (i := 2) rfl (.inl (by kernel_rfl)) (.inr (by kernel_rfl)))) (fun _ _ _ _ _ => pts_nilR) (fun _ _ _ _ _ => (re_callN (G.f__law_same) hr rfl rfl rfl (pa_consA (re_idx rfl hu1 (fun _ _ => rfl) (fun _ _ => rfl) (re_rb (re_var (i := 0) rfl (.inr (.inl (by kernel_rfl))) rfl rfl)) (re_rb (re_var (i := 2) rfl (.inl (by kernel_rfl)) rfl rfl))) (pa_consA (re_idx rfl hu1 (fun _ _ => rfl) (fun _ _ => rfl) (re_rb (re_var (i := 1) rfl (.inr (.inl (by kernel_rfl))) rfl rfl)) (re_rb (re_var (i := 2) rfl (.inl (by kernel_rfl)) rfl rfl))) pa_nilA rfl) rfl) rfl rfl)) (fun _ => rfl)))) pa_nilB rfl) rfl)))
    pss_nilR)) pss_nilR)
    (pss_consR (ps_ifR (pt_w (pw_orR (pt_cmpT (cr_ne rfl hu) (ObjC.none fun _ _ => rfl) (plain_or (by decide)) rfl (re_rb (re_isi rfl (G.isi _ rfl) rfl G.n_isinstance (clsn_ty rfl G.n_list bt_list (by decide) (by decide) rfl) (re_rb (re_var (i := 1) rfl (.inr (.inl (by kernel_rfl))) rfl rfl)) rfl)) (re_rb (re_isi rfl (G.isi _ rfl) rfl G.n_isinstance (clsn_ty rfl G.n_list bt_list (by decide) (by decide) rfl) (re_rb (re_var (i := 0) rfl (.inr (.inl (by kernel_rfl))) rfl rfl)) rfl))) (pw_orL (pt_cmpT (cr_ne rfl hu) (ObjC.none fun _ _ => rfl) (plain_or (by decide)) rfl (re_rb (re_isi rfl (G.isi _ rfl) rfl G.n_isinstance (clsn_ty rfl G.n_tuple bt_tuple (by decide) (by decide) rfl) (re_rb (re_var (i := 1) rfl (.inr (.inl (by kernel_rfl))) rfl rfl)) rfl)) (re_rb (re_isi rfl (G.isi _ rfl) rfl G.n_isinstance (clsn_ty rfl G.n_tuple bt_tuple (by decide) (by decide) rfl) (re_rb (re_var (i := 0) rfl (.inr (.inl (by kernel_rfl))) rfl rfl)) rfl)))))) (pss_consR (ps_retR re_bl)
    pss_nilR) pss_nilR)
    (pss_consR (ps_retR (re_and (re_rb (re_cmp (cr_eq rfl hu) (ObjC.none fun _ _ => rfl) (plain_or (by decide)) rfl (re_rb (rx_re (rx_bi (bi_len rfl) rfl G.n_len bt_len (by decide) (by decide) (pa_consB (re_rb (re_var (i := 0) rfl (.inr (.inl (by kernel_rfl))) rfl rfl)) pa_nilB rfl) rfl))) (re_rb (rx_re (rx_bi (bi_len rfl) rfl G.n_len bt_len (by decide) (by decide) (pa_consB (re_rb (re_var (i := 1) rfl (.inr (.inl (by kernel_rfl))) rfl rfl)) pa_nilB rfl) rfl))))) (re_one (rx_re (rx_bi (bi_all rfl rfl) rfl G.n_all bt_all (by decide) (by decide) (pa_consB (re_rb (rx_re (rx_lc rfl ND (own := [("_law_one", 3), ("_law_two", 4)]) (pi_zipR rfl G.n_zip (pa_consA (re_var (i := 0) rfl (.inr (.inl (by kernel_rfl))) rfl rfl) (pa_consA (re_var (i := 1) rfl (.inr (.inl (by kernel_rfl))) rfl rfl) pa_nilA rfl) rfl) rfl rfl) (blkOk_by (by kernel_rfl)) (by decide) (fun _ _ _ _ _ => (pg_tpR rfl rfl (pgs_consR (pg_nm ND (i := 3) rfl (.inl (by kernel_rfl)) (.inr (by kernel_rfl))) (pgs_consR (pg_nm ND (i := 4) rfl (.inl (by kernel_rfl)) (.inr (by kernel_rfl))) pgs_nilR rfl) rfl) rfl rfl)) (fun _ _ _ _ _ => pts_nilR) (fun _ _ _ _ _ => (re_callN (G.f__law_same) hr rfl rfl rfl (pa_consA (re_var (i := 3) rfl (.inl (by kernel_rfl)) rfl rfl) (pa_consA (re_var (i := 4) rfl (.inl (by kernel_rfl)) rfl rfl) pa_nilA rfl) rfl) rfl rfl)) (fun _ => rfl)))) pa_nilB rfl) rfl)))))
    pss_nilR))))))
theorem ok__law_made_errors (G : Gf P w K mg base n) (F : FunD K "_law_made_errors" "_law_made_errors" (defArgs (top 29)) (defBody (top 29)) (defScope (top 29)) [] [] fa fd) : FnOk P w K mg base CX0 (2 * (n + 1) + 2) fa fd ["_law_number", "_law_word"] (spF (Mn K) B (evC B (n + 1)) 4) := by
  refine fn_okR (fn := ⟨3, 2, none, b__law_made_errors⟩) (N := N__law_made_errors) F ⟨by kernel_rfl, by kernel_rfl, by kernel_rfl, by decide +kernel, by kernel_rfl, by decide +kernel, by decide +kernel⟩ rfl rfl rfl (by decide) rfl fun cdv A outer s H E hr => ?_
  have ND : N__law_made_errors.Nodup := by decide +kernel
  have hu : (A.deeper (envOfC "_law_made_errors" (defScope (top 29)) s.heap.objs.size fa cdv)).units + 64 < cLine := by have := hr.un; omega
  have hu1 : (A.deeper (envOfC "_law_made_errors" (defScope (top 29)) s.heap.objs.size fa cdv)).units + 1 < cLine := by have := hr.un; omega
  exact (pss_consR (ps_asgR ND (i := 2) rfl (.inl (by kernel_rfl)) (rx_re (rx_lst (pa_consA (re_mkxN (G.x_InvalidRatio) (hr.mono (by omega)) (by decide) rfl (pa_consA (re_var (i := 0) rfl (.inl (by kernel_rfl)) rfl rfl) pa_nilA rfl) rfl rfl) (pa_consA (re_mkxN (G.x_InvalidRow) (hr.mono (by omega)) (by decide) rfl (pa_consA (re_var (i := 0) rfl (.inl (by kernel_rfl)) rfl rfl) pa_nilA rfl) rfl rfl) (pa_consA (re_mkxN (G.x_InvalidName) (hr.mono (by omega)) (by decide) rfl (pa_consA (re_var (i := 1) rfl (.inl (by kernel_rfl)) rfl rfl) pa_nilA rfl) rfl rfl) (pa_consA (re_mkxN (G.x_InvalidTie) (hr.mono (by omega)) (by decide) rfl (pa_consA (re_var (i := 0) rfl (.inl (by kernel_rfl)) rfl rfl) pa_nilA rfl) rfl rfl) (pa_consA (re_mkxN (G.x_InvalidWish) (hr.mono (by omega)) (by decide) rfl (pa_consA (re_var (i := 0) rfl (.inl (by kernel_rfl)) rfl rfl) pa_nilA rfl) rfl rfl) (pa_consA (re_mkxN (G.x_InvalidTimes) (hr.mono (by omega)) (by decide) rfl (pa_consA (re_var (i := 0) rfl (.inl (by kernel_rfl)) rfl rfl) pa_nilA rfl) rfl rfl) pa_nilA rfl) rfl) rfl) rfl) rfl) rfl))) rfl (.inl rfl))
    (pss_consR (ps_asgR ND (i := 2) rfl (.inl (by kernel_rfl)) (rx_re (rx_bin br_add (ObjR.none fun _ _ => rfl) (re_rb (re_var (i := 2) rfl (.inl (by kernel_rfl)) rfl rfl)) (re_rb (rx_re (rx_lst (pa_consA (re_mkxN (G.x_InvalidLimit) (hr.mono (by omega)) (by decide) rfl (pa_consA (re_var (i := 0) rfl (.inl (by kernel_rfl)) rfl rfl) pa_nilA rfl) rfl rfl) (pa_consA (re_mkxN (G.x_InvalidCommand) (hr.mono (by omega)) (by decide) rfl (pa_consA (re_var (i := 1) rfl (.inl (by kernel_rfl)) rfl rfl) pa_nilA rfl) rfl rfl) (pa_consA (re_mkxN (G.x_NotTied) (hr.mono (by omega)) (by decide) rfl (pa_consA (re_var (i := 0) rfl (.inl (by kernel_rfl)) rfl rfl) pa_nilA rfl) rfl rfl) (pa_consA (re_mkxN (G.x_SameName) (hr.mono (by omega)) (by decide) rfl (pa_consA (re_var (i := 1) rfl (.inl (by kernel_rfl)) rfl rfl) pa_nilA rfl) rfl rfl) (pa_consA (re_mkxN0 (G.x_NamesDiffer) (hr.mono (by omega)) rfl rfl) (pa_consA (re_mkxN0 (G.x_EmptyFigure) (hr.mono (by omega)) rfl rfl) (pa_consA (re_mkxN0 (G.x_Impossible) (hr.mono (by omega)) rfl rfl) pa_nilA rfl) rfl) rfl) rfl) rfl) rfl) rfl)))))) rfl (.inl rfl))
    (pss_consR (ps_asgR ND (i := 2) rfl (.inl (by kernel_rfl)) (rx_re (rx_bin br_add (ObjR.none fun _ _ => rfl) (re_rb (re_var (i := 2) rfl (.inl (by kernel_rfl)) rfl rfl)) (re_rb (rx_re (rx_lst (pa_consA (re_mkxN (G.x_Possible) (hr.mono (by omega)) (by decide) rfl (pa_consA (re_var (i := 1) rfl (.inl (by kernel_rfl)) rfl rfl) pa_nilA rfl) rfl rfl) (pa_consA (re_mkxN (G.x_NotImplied) (hr.mono (by omega)) (by decide) rfl (pa_consA (re_var (i := 1) rfl (.inl (by kernel_rfl)) rfl rfl) pa_nilA rfl) rfl rfl) (pa_consA (re_mkxN (G.x_ParseError) (hr.mono (by omega)) (by decide) rfl (pa_consA (re_var (i := 0) rfl (.inl (by kernel_rfl)) rfl rfl) pa_nilA rfl) rfl rfl) (pa_consA (re_mkxN (G.x_DuplicateLabel) (hr.mono (by omega)) (by decide) rfl (pa_consA (re_var (i := 1) rfl (.inl (by kernel_rfl)) rfl rfl) pa_nilA rfl) rfl rfl) (pa_consA (re_mkxN (G.x_CapacityExceeded) (hr.mono (by omega)) (by decide) rfl (pa_consA (re_var (i := 0) rfl (.inl (by kernel_rfl)) rfl rfl) pa_nilA rfl) rfl rfl) pa_nilA rfl) rfl) rfl) rfl) rfl)))))) rfl (.inl rfl))
    (pss_consR (ps_retR (rx_re (rx_bin br_add (ObjR.none fun _ _ => rfl) (re_rb (re_var (i := 2) rfl (.inl (by kernel_rfl)) rfl rfl)) (re_rb (rx_re (rx_lst (pa_consA (re_mkxN (G.x_UnknownName) (hr.mono (by omega)) (by decide) rfl (pa_consA (re_var (i := 1) rfl (.inl (by kernel_rfl)) rfl rfl) pa_nilA rfl) rfl rfl) (pa_consA (re_mkxN (G.x_UnknownLabel) (hr.mono (by omega)) (by decide) rfl (pa_consA (re_var (i := 1) rfl (.inl (by kernel_rfl)) rfl rfl) pa_nilA rfl) rfl rfl) (pa_consA (re_mkxN0 (G.x_NothingLeft) (hr.mono (by omega)) rfl rfl) pa_nilA rfl) rfl) rfl)))))))
    pss_nilR))))
theorem ok__law_flags (G : Gf P w K mg base n) (F : FunD K "_law_flags" "_law_flags" (defArgs (top 30)) (defBody (top 30)) (defScope (top 30)) [] [] fa fd) : FnOk P w K mg base CX0 (2 * (n + 1) + 2) fa fd ["_law_e"] (spF (Mn K) B (evC B (n + 1)) 5) := by
  refine fn_okR (fn := ⟨2, 1, none, b__law_flags⟩) (N := N__law_flags) F ⟨by kernel_rfl, by kernel_rfl, by kernel_rfl, by decide +kernel, by kernel_rfl, by decide +kernel, by decide +kernel⟩ rfl rfl rfl (by decide) rfl fun cdv A outer s H E hr => ?_
  have ND : N__law_flags.Nodup := by decide +kernel
  have hu : (A.deeper (envOfC "_law_flags" (defScope (top 30)) s.heap.objs.size fa cdv)).units + 64 < cLine := by have := hr.un; omega
  have hu1 : (A.deeper (envOfC "_law_flags" (defScope (top 30)) s.heap.objs.size fa cdv)).units + 1 < cLine := by have := hr.un; omega
  exact (pss_consR (ps_asgR ND (i := 1) rfl (.inl (by kernel_rfl)) (rx_re (rx_lst (pa_consA (re_isi rfl (G.isi _ rfl) rfl G.n_isinstance (clsn_own (C := He.ga K "InvalidRatio") rfl G.g_InvalidRatio rfl rfl) (re_rb (re_var (i := 0) rfl (.inl (by kernel_rfl)) rfl rfl)) rfl) (pa_consA (re_isi rfl (G.isi _ rfl) rfl G.n_isinstance (clsn_own (C := He.ga K "InvalidRow") rfl G.g_InvalidRow rfl rfl) (re_rb (re_var (i := 0) rfl (.inl (by kernel_rfl)) rfl rfl)) rfl) (pa_consA (re_isi rfl (G.isi _ rfl) rfl G.n_isinstance (clsn_own (C := He.ga K "InvalidName") rfl G.g_InvalidName rfl rfl) (re_rb (re_var (i := 0) rfl (.inl (by kernel_rfl)) rfl rfl)) rfl) (pa_consA (re_isi rfl (G.isi _ rfl) rfl G.n_isinstance (clsn_own (C := He.ga K "InvalidTie") rfl G.g_InvalidTie rfl rfl) (re_rb (re_var (i := 0) rfl (.inl (by kernel_rfl)) rfl rfl)) rfl) pa_nilA rfl) rfl) rfl) rfl))) rfl (.inl rfl))
    (pss_consR (ps_asgR ND (i := 1) rfl (.inl (by kernel_rfl)) (rx_re (rx_bin br_add (ObjR.none fun _ _ => rfl) (re_rb (re_var (i := 1) rfl (.inl (by kernel_rfl)) rfl rfl)) (re_rb (rx_re (rx_lst (pa_consA (re_isi rfl (G.isi _ rfl) rfl G.n_isinstance (clsn_own (C := He.ga K "InvalidWish") rfl G.g_InvalidWish rfl rfl) (re_rb (re_var (i := 0) rfl (.inl (by kernel_rfl)) rfl rfl)) rfl) (pa_consA (re_isi rfl (G.isi _ rfl) rfl G.n_isinstance (clsn_own (C := He.ga K "InvalidTimes") rfl G.g_InvalidTimes rfl rfl) (re_rb (re_var (i := 0) rfl (.inl (by kernel_rfl)) rfl rfl)) rfl) (pa_consA (re_isi rfl (G.isi _ rfl) rfl G.n_isinstance (clsn_own (C := He.ga K "InvalidLimit") rfl G.g_InvalidLimit rfl rfl) (re_rb (re_var (i := 0) rfl (.inl (by kernel_rfl)) rfl rfl)) rfl) (pa_consA (re_isi rfl (G.isi _ rfl) rfl G.n_isinstance (clsn_own (C := He.ga K "InvalidCommand") rfl G.g_InvalidCommand rfl rfl) (re_rb (re_var (i := 0) rfl (.inl (by kernel_rfl)) rfl rfl)) rfl) pa_nilA rfl) rfl) rfl) rfl)))))) rfl (.inl rfl))
    (pss_consR (ps_asgR ND (i := 1) rfl (.inl (by kernel_rfl)) (rx_re (rx_bin br_add (ObjR.none fun _ _ => rfl) (re_rb (re_var (i := 1) rfl (.inl (by kernel_rfl)) rfl rfl)) (re_rb (rx_re (rx_lst (pa_consA (re_isi rfl (G.isi _ rfl) rfl G.n_isinstance (clsn_own (C := He.ga K "NotTied") rfl G.g_NotTied rfl rfl) (re_rb (re_var (i := 0) rfl (.inl (by kernel_rfl)) rfl rfl)) rfl) (pa_consA (re_isi rfl (G.isi _ rfl) rfl G.n_isinstance (clsn_own (C := He.ga K "SameName") rfl G.g_SameName rfl rfl) (re_rb (re_var (i := 0) rfl (.inl (by kernel_rfl)) rfl rfl)) rfl) (pa_consA (re_isi rfl (G.isi _ rfl) rfl G.n_isinstance (clsn_own (C := He.ga K "NamesDiffer") rfl G.g_NamesDiffer rfl rfl) (re_rb (re_var (i := 0) rfl (.inl (by kernel_rfl)) rfl rfl)) rfl) (pa_consA (re_isi rfl (G.isi _ rfl) rfl G.n_isinstance (clsn_own (C := He.ga K "EmptyFigure") rfl G.g_EmptyFigure rfl rfl) (re_rb (re_var (i := 0) rfl (.inl (by kernel_rfl)) rfl rfl)) rfl) pa_nilA rfl) rfl) rfl) rfl)))))) rfl (.inl rfl))
    (pss_consR (ps_asgR ND (i := 1) rfl (.inl (by kernel_rfl)) (rx_re (rx_bin br_add (ObjR.none fun _ _ => rfl) (re_rb (re_var (i := 1) rfl (.inl (by kernel_rfl)) rfl rfl)) (re_rb (rx_re (rx_lst (pa_consA (re_isi rfl (G.isi _ rfl) rfl G.n_isinstance (clsn_own (C := He.ga K "Impossible") rfl G.g_Impossible rfl rfl) (re_rb (re_var (i := 0) rfl (.inl (by kernel_rfl)) rfl rfl)) rfl) (pa_consA (re_isi rfl (G.isi _ rfl) rfl G.n_isinstance (clsn_own (C := He.ga K "Possible") rfl G.g_Possible rfl rfl) (re_rb (re_var (i := 0) rfl (.inl (by kernel_rfl)) rfl rfl)) rfl) (pa_consA (re_isi rfl (G.isi _ rfl) rfl G.n_isinstance (clsn_own (C := He.ga K "NotImplied") rfl G.g_NotImplied rfl rfl) (re_rb (re_var (i := 0) rfl (.inl (by kernel_rfl)) rfl rfl)) rfl) (pa_consA (re_isi rfl (G.isi _ rfl) rfl G.n_isinstance (clsn_own (C := He.ga K "ParseError") rfl G.g_ParseError rfl rfl) (re_rb (re_var (i := 0) rfl (.inl (by kernel_rfl)) rfl rfl)) rfl) pa_nilA rfl) rfl) rfl) rfl)))))) rfl (.inl rfl))
    (pss_consR (ps_asgR ND (i := 1) rfl (.inl (by kernel_rfl)) (rx_re (rx_bin br_add (ObjR.none fun _ _ => rfl) (re_rb (re_var (i := 1) rfl (.inl (by kernel_rfl)) rfl rfl)) (re_rb (rx_re (rx_lst (pa_consA (re_isi rfl (G.isi _ rfl) rfl G.n_isinstance (clsn_own (C := He.ga K "DuplicateLabel") rfl G.g_DuplicateLabel rfl rfl) (re_rb (re_var (i := 0) rfl (.inl (by kernel_rfl)) rfl rfl)) rfl) (pa_consA (re_isi rfl (G.isi _ rfl) rfl G.n_isinstance (clsn_own (C := He.ga K "CapacityExceeded") rfl G.g_CapacityExceeded rfl rfl) (re_rb (re_var (i := 0) rfl (.inl (by kernel_rfl)) rfl rfl)) rfl) (pa_consA (re_isi rfl (G.isi _ rfl) rfl G.n_isinstance (clsn_own (C := He.ga K "UnknownName") rfl G.g_UnknownName rfl rfl) (re_rb (re_var (i := 0) rfl (.inl (by kernel_rfl)) rfl rfl)) rfl) pa_nilA rfl) rfl) rfl)))))) rfl (.inl rfl))
    (pss_consR (ps_retR (rx_re (rx_bin br_add (ObjR.none fun _ _ => rfl) (re_rb (re_var (i := 1) rfl (.inl (by kernel_rfl)) rfl rfl)) (re_rb (rx_re (rx_lst (pa_consA (re_isi rfl (G.isi _ rfl) rfl G.n_isinstance (clsn_own (C := He.ga K "UnknownLabel") rfl G.g_UnknownLabel rfl rfl) (re_rb (re_var (i := 0) rfl (.inl (by kernel_rfl)) rfl rfl)) rfl) (pa_consA (re_isi rfl (G.isi _ rfl) rfl G.n_isinstance (clsn_own (C := He.ga K "NothingLeft") rfl G.g_NothingLeft rfl rfl) (re_rb (re_var (i := 0) rfl (.inl (by kernel_rfl)) rfl rfl)) rfl) pa_nilA rfl) rfl)))))))
    pss_nilR))))))
theorem ok__law_value_of (G : Gf P w K mg base n) (F : FunD K "_law_value_of" "_law_value_of" (defArgs (top 31)) (defBody (top 31)) (defScope (top 31)) [] [] fa fd) : FnOk P w K mg base CX0 (2 * (n + 1) + 2) fa fd ["_law_e"] (spF (Mn K) B (evC B (n + 1)) 6) := by
  refine fn_okR (fn := ⟨1, 1, none, b__law_value_of⟩) (N := N__law_value_of) F ⟨by kernel_rfl, by kernel_rfl, by kernel_rfl, by decide +kernel, by kernel_rfl, by decide +kernel, by decide +kernel⟩ rfl rfl rfl (by decide) rfl fun cdv A outer s H E hr => ?_
  have ND : N__law_value_of.Nodup := by decide +kernel
  have hu : (A.deeper (envOfC "_law_value_of" (defScope (top 31)) s.heap.objs.size fa cdv)).units + 64 < cLine := by have := hr.un; omega
  have hu1 : (A.deeper (envOfC "_law_value_of" (defScope (top 31)) s.heap.objs.size fa cdv)).units + 1 < cLine := by have := hr.un; omega
  exact (pss_consR (ps_ifR (pt_of (re_rb (re_isiT rfl (G.isi _ rfl) rfl G.n_isinstance (.cons (clsn_own (C := He.ga K "InvalidRatio") rfl G.g_InvalidRatio rfl rfl) (.cons (clsn_own (C := He.ga K "InvalidTimes") rfl G.g_InvalidTimes rfl rfl) (.cons (clsn_own (C := He.ga K "InvalidLimit") rfl G.g_InvalidLimit rfl rfl) .nil rfl) rfl) rfl) (re_rb (re_var (i := 0) rfl (.inl (by kernel_rfl)) rfl rfl)) rfl (by simp [sizeLine_eq]))) (fun _ => rfl)) (pss_consR (ps_retR (re_fld (G.cls _ rfl) G.inj (f := 1) rfl (re_rb (re_var (i := 0) rfl (.inl (by kernel_rfl)) rfl rfl)) rfl))
    pss_nilR) pss_nilR)
    (pss_consR (ps_ifR (pt_of (re_rb (re_isiT rfl (G.isi _ rfl) rfl G.n_isinstance (.cons (clsn_own (C := He.ga K "InvalidRow") rfl G.g_InvalidRow rfl rfl) (.cons (clsn_own (C := He.ga K "InvalidTie") rfl G.g_InvalidTie rfl rfl) (.cons (clsn_own (C := He.ga K "InvalidWish") rfl G.g_InvalidWish rfl rfl) (.cons (clsn_own (C := He.ga K "ParseError") rfl G.g_ParseError rfl rfl) .nil rfl) rfl) rfl) rfl) (re_rb (re_var (i := 0) rfl (.inl (by kernel_rfl)) rfl rfl)) rfl (by simp [sizeLine_eq]))) (fun _ => rfl)) (pss_consR (ps_retR (re_fld (G.cls _ rfl) G.inj (f := 2) rfl (re_rb (re_var (i := 0) rfl (.inl (by kernel_rfl)) rfl rfl)) rfl))
    pss_nilR) pss_nilR)
    (pss_consR (ps_ifR (pt_of (re_rb (re_isiT rfl (G.isi _ rfl) rfl G.n_isinstance (.cons (clsn_own (C := He.ga K "InvalidName") rfl G.g_InvalidName rfl rfl) (.cons (clsn_own (C := He.ga K "SameName") rfl G.g_SameName rfl rfl) (.cons (clsn_own (C := He.ga K "UnknownName") rfl G.g_UnknownName rfl rfl) .nil rfl) rfl) rfl) (re_rb (re_var (i := 0) rfl (.inl (by kernel_rfl)) rfl rfl)) rfl (by simp [sizeLine_eq]))) (fun _ => rfl)) (pss_consR (ps_retR (re_fld (G.cls _ rfl) G.inj (f := 3) rfl (re_rb (re_var (i := 0) rfl (.inl (by kernel_rfl)) rfl rfl)) rfl))
    pss_nilR) pss_nilR)
    (pss_consR (ps_ifR (pt_of (re_rb (re_isiT rfl (G.isi _ rfl) rfl G.n_isinstance (.cons (clsn_own (C := He.ga K "DuplicateLabel") rfl G.g_DuplicateLabel rfl rfl) (.cons (clsn_own (C := He.ga K "UnknownLabel") rfl G.g_UnknownLabel rfl rfl) .nil rfl) rfl) (re_rb (re_var (i := 0) rfl (.inl (by kernel_rfl)) rfl rfl)) rfl (by simp [sizeLine_eq]))) (fun _ => rfl)) (pss_consR (ps_retR (re_fld (G.cls _ rfl) G.inj (f := 7) rfl (re_rb (re_var (i := 0) rfl (.inl (by kernel_rfl)) rfl rfl)) rfl))
    pss_nilR) pss_nilR)
    (pss_consR (ps_ifR (pt_of (re_rb (re_isiT rfl (G.isi _ rfl) rfl G.n_isinstance (.cons (clsn_own (C := He.ga K "Possible") rfl G.g_Possible rfl rfl) (.cons (clsn_own (C := He.ga K "NotImplied") rfl G.g_NotImplied rfl rfl) .nil rfl) rfl) (re_rb (re_var (i := 0) rfl (.inl (by kernel_rfl)) rfl rfl)) rfl (by simp [sizeLine_eq]))) (fun _ => rfl)) (pss_consR (ps_retR (re_fld (G.cls _ rfl) G.inj (f := 6) rfl (re_rb (re_var (i := 0) rfl (.inl (by kernel_rfl)) rfl rfl)) rfl))
    pss_nilR) pss_nilR)
    (pss_consR (ps_ifR (pt_of (re_rb (re_isiT rfl (G.isi _ rfl) rfl G.n_isinstance (.cons (clsn_own (C := He.ga K "NotTied") rfl G.g_NotTied rfl rfl) (.cons (clsn_own (C := He.ga K "CapacityExceeded") rfl G.g_CapacityExceeded rfl rfl) .nil rfl) rfl) (re_rb (re_var (i := 0) rfl (.inl (by kernel_rfl)) rfl rfl)) rfl (by simp [sizeLine_eq]))) (fun _ => rfl)) (pss_consR (ps_retR (re_ite (tc := fun _ _ _ => True) (pt_of (re_rb (re_isi rfl (G.isi _ rfl) rfl G.n_isinstance (clsn_own (C := He.ga K "NotTied") rfl G.g_NotTied rfl rfl) (re_rb (re_var (i := 0) rfl (.inl (by kernel_rfl)) rfl rfl)) rfl)) (fun _ => rfl)) (re_fld (G.cls _ rfl) G.inj (f := 5) rfl (re_rb (re_var (i := 0) rfl (.inl (by kernel_rfl)) rfl rfl)) rfl) (re_fld (G.cls _ rfl) G.inj (f := 8) rfl (re_rb (re_var (i := 0) rfl (.inl (by kernel_rfl)) rfl rfl)) rfl)))
    pss_nilR) pss_nilR)
    (pss_consR (ps_retR (re_ite (tc := fun _ _ _ => True) (pt_of (re_rb (re_isi rfl (G.isi _ rfl) rfl G.n_isinstance (clsn_own (C := He.ga K "InvalidCommand") rfl G.g_InvalidCommand rfl rfl) (re_rb (re_var (i := 0) rfl (.inl (by kernel_rfl)) rfl rfl)) rfl)) (fun _ => rfl)) (re_fld (G.cls _ rfl) G.inj (f := 4) rfl (re_rb (re_var (i := 0) rfl (.inl (by kernel_rfl)) rfl rfl)) rfl) re_non))
    pss_nilR)))))))
theorem ok_law (G : Gf P w K mg base n) (F : FunD K "law" "law" (defArgs (top 32)) (defBody (top 32)) (defScope (top 32)) [] [] fa fd) : FnOk P w K mg base CX0 (2 * (n + 1) + 2) fa fd ["_law_script"] (spF (Mn K) B (evC B (n + 1)) 7) := by
  refine fn_okR (fn := ⟨12, 1, none, b_law⟩) (N := N_law) F ⟨by kernel_rfl, by kernel_rfl, by kernel_rfl, by decide +kernel, by kernel_rfl, by decide +kernel, by decide +kernel⟩ rfl rfl rfl (by decide) rfl fun cdv A outer s H E hr => ?_
  have ND : N_law.Nodup := by decide +kernel
  have hu : (A.deeper (envOfC "law" (defScope (top 32)) s.heap.objs.size fa cdv)).units + 64 < cLine := by have := hr.un; omega
  have hu1 : (A.deeper (envOfC "law" (defScope (top 32)) s.heap.objs.size fa cdv)).units + 1 < cLine := by have := hr.un; omega
  exact (pss_consR (ps_asgR ND (i := 1) rfl (.inl (by kernel_rfl)) (re_callN (G.f__law_feed) hr rfl rfl rfl (pa_consA (re_var (i := 0) rfl (.inl (by kernel_rfl)) rfl rfl) pa_nilA rfl) rfl rfl) rfl (.inl rfl))
    (pss_consR (ps_parR (sb2 := .bad) (i := 2) (j := 3) rfl ND rfl rfl (by decide) rfl rfl (pa_consA (re_callN (G.f__law_draw) hr rfl rfl rfl (pa_consA (re_var (i := 1) rfl (.inl (by kernel_rfl)) rfl rfl) (pa_consA (re_pow (by decide)) pa_nilA rfl) rfl) rfl rfl) (pa_consA (re_callN (G.f__law_any) hr rfl rfl rfl (pa_consA (re_var (i := 1) rfl (.inl (by kernel_rfl)) rfl rfl) (pa_consA (rx_re (rx_lst (pa_consA re_str (pa_consA re_str (pa_consA re_str pa_nilA rfl) rfl) rfl))) pa_nilA rfl) rfl) rfl rfl) pa_nilA rfl) rfl) rfl rfl)
    (pss_consR (ps_asgR ND (i := 4) rfl (.inl (by kernel_rfl)) re_str rfl (.inl rfl))
    (pss_consR (ps_asgR ND (i := 4) rfl (.inl (by kernel_rfl)) (rx_re (rx_bin br_add (ObjR.none fun _ _ => rfl) (re_rb (re_var (i := 4) rfl (.inl (by kernel_rfl)) rfl rfl)) (re_rb re_str))) rfl (.inl rfl))
    (pss_consR (ps_asgR ND (i := 4) rfl (.inl (by kernel_rfl)) (rx_re (rx_split (re_rb (rx_re (rx_bin br_add (ObjR.none fun _ _ => rfl) (re_rb (re_var (i := 4) rfl (.inl (by kernel_rfl)) rfl rfl)) (re_rb re_str)))) (re_rb re_str) rfl rfl rfl)) rfl (.inl rfl))
    (pss_consR (ps_asgR ND (i := 4) rfl (.inl (by kernel_rfl)) (rx_re (rx_bin br_add (ObjR.none fun _ _ => rfl) (re_rb (re_var (i := 4) rfl (.inl (by kernel_rfl)) rfl rfl)) (re_rb (rx_re (rx_lst (pa_consA re_str (pa_consA re_str (pa_consA re_str pa_nilA rfl) rfl) rfl)))))) rfl (.inl rfl))
    (pss_consR (ps_asgR ND (i := 5) rfl (.inl (by kernel_rfl)) (rx_re (rx_lst (pa_consA (re_var (i := 2) rfl (.inl (by kernel_rfl)) rfl rfl) (pa_consA (re_var (i := 2) rfl (.inl (by kernel_rfl)) rfl rfl) (pa_consA (re_var (i := 3) rfl (.inl (by kernel_rfl)) rfl rfl) (pa_consA (re_var (i := 2) rfl (.inl (by kernel_rfl)) rfl rfl) (pa_consA (re_var (i := 2) rfl (.inl (by kernel_rfl)) rfl rfl) (pa_consA (re_var (i := 2) rfl (.inl (by kernel_rfl)) rfl rfl) (pa_consA (re_var (i := 2) rfl (.inl (by kernel_rfl)) rfl rfl) (pa_consA (re_var (i := 3) rfl (.inl (by kernel_rfl)) rfl rfl) (pa_consA (re_var (i := 2) rfl (.inl (by kernel_rfl)) rfl rfl) (pa_consA (re_var (i := 3) rfl (.inl (by kernel_rfl)) rfl rfl) (pa_consA re_non (pa_consA re_non (pa_consA re_non (pa_consA (re_var (i := 3) rfl (.inl (by kernel_rfl)) rfl rfl) (pa_consA (re_var (i := 3) rfl (.inl (by kernel_rfl)) rfl rfl) (pa_consA (re_var (i := 2) rfl (.inl (by kernel_rfl)) rfl rfl) (pa_consA (re_var (i := 3) rfl (.inl (by kernel_rfl)) rfl rfl) (pa_consA (re_var (i := 2) rfl (.inl (by kernel_rfl)) rfl rfl) (pa_consA (re_var (i := 3) rfl (.inl (by kernel_rfl)) rfl rfl) (pa_consA (re_var (i := 3) rfl (.inl (by kernel_rfl)) rfl rfl) (pa_consA re_non pa_nilA rfl) rfl) rfl) rfl) rfl) rfl) rfl) rfl) rfl) rfl) rfl) rfl) rfl) rfl) rfl) rfl) rfl) rfl) rfl) rfl) rfl))) rfl (.inl rfl))
    (pss_consR (ps_unpR (re_tup (pa_consA (re_callN (G.f__law_made_errors) hr rfl rfl rfl (pa_consA (re_var (i := 2) rfl (.inl (by kernel_rfl)) rfl rfl) (pa_consA (re_var (i := 3) rfl (.inl (by kernel_rfl)) rfl rfl) pa_nilA rfl) rfl) rfl rfl) (pa_consA (re_callN (G.f__law_draw) hr rfl rfl rfl (pa_consA (re_var (i := 1) rfl (.inl (by kernel_rfl)) rfl rfl) (pa_consA re_int pa_nilA rfl) rfl) rfl rfl) pa_nilA rfl) rfl)) (pg_tpR rfl rfl (pgs_consR (pg_nm ND (i := 6) rfl (.inl (by kernel_rfl)) (.inl rfl)) (pgs_consR (pg_nm ND (i := 7) rfl (.inr (by kernel_rfl)) (.inl rfl)) pgs_nilR rfl) rfl) rfl rfl) rfl rfl)
    (pss_consR (ps_forR PassesOwn.never rfl (pi_seqR rfl (rx_re (rx_lc rfl ND (own := [("_law_k", 11)]) (pi_rngR rfl G.n_range (pa_consA re_int pa_nilA rfl) rfl) (blkOk_by (by kernel_rfl)) (by decide) (fun _ _ _ _ _ => (pg_nm ND (i := 11) rfl (.inl (by kernel_rfl)) (.inr (by kernel_rfl)))) (fun _ _ _ _ _ => pts_nilR) (fun _ _ _ _ _ => (rx_re (rx_bin br_mod (ObjR.none fun _ _ => rfl) (re_rb (rx_re (rx_ty (bi_int) rfl G.n_int bt_int (by decide) (by decide) (pa_consB (re_rb (rx_re (rx_bin br_add (ObjR.none fun _ _ => rfl) (re_rb (re_var (i := 7) rfl (.inr (.inl (by kernel_rfl))) rfl rfl)) (re_rb (re_var (i := 11) rfl (.inl (by kernel_rfl)) rfl rfl))))) pa_nilB rfl) rfl))) (re_rb re_int)))) (fun _ => rfl)))) (pg_nm ND (i := 8) rfl (.inr (by kernel_rfl)) (.inl rfl)) (pss_consR (ps_asgR ND (i := 9) rfl (.inl (by kernel_rfl)) (re_idx rfl hu1 (fun _ _ => rfl) (fun _ _ => rfl) (re_rb (re_var (i := 6) rfl (.inl (by kernel_rfl)) rfl rfl)) (re_rb (re_var (i := 8) rfl (.inr (.inl (by kernel_rfl))) rfl rfl))) rfl (.inl rfl))
    (pss_consR (ps_ifR (pt_w (pw_orR (pt_cmpT (cr_ne rfl hu) (ObjC.none fun _ _ => rfl) (plain_or (by decide)) rfl (re_rb (re_callN (G.f__law_flags) hr rfl rfl rfl (pa_consA (re_var (i := 9) rfl (.inl (by kernel_rfl)) rfl rfl) pa_nilA rfl) rfl rfl)) (re_rb (rx_re (rx_lc rfl ND (own := [("_law_k", 11)]) (pi_rngR rfl G.n_range (pa_consA re_int pa_nilA rfl) rfl) (blkOk_by (by kernel_rfl)) (by decide) (fun _ _ _ _ _ => (pg_nm ND (i := 11) rfl (.inl (by kernel_rfl)) (.inr (by kernel_rfl)))) (fun _ _ _ _ _ => pts_nilR) (fun _ _ _ _ _ => (re_cmp (cr_eq rfl hu) (ObjC.none fun _ _ => rfl) (plain_or (by decide)) rfl (re_rb (re_var (i := 11) rfl (.inl (by kernel_rfl)) rfl rfl)) (re_rb (re_var (i := 8) rfl (.inr (.inl (by kernel_rfl))) rfl rfl)))) (fun _ => rfl))))) (pw_orR (pt_cmpT (cr_ne rfl hu) (ObjC.none fun _ _ => rfl) (plain_or (by decide)) rfl (re_rb (re_fld (G.cls _ rfl) G.inj (f := 0) rfl (re_rb (re_var (i := 9) rfl (.inl (by kernel_rfl)) rfl rfl)) rfl)) (re_rb (re_idx rfl hu1 (fun _ _ => rfl) (fun _ _ => rfl) (re_rb (re_var (i := 4) rfl (.inl (by kernel_rfl)) rfl rfl)) (re_rb (re_var (i := 8) rfl (.inr (.inl (by kernel_rfl))) rfl rfl))))) (pw_orL (pt_notR (pt_of (re_rb (re_callN (G.f__law_same) hr rfl rfl rfl (pa_consA (re_callN (G.f__law_value_of) hr rfl rfl rfl (pa_consA (re_var (i := 9) rfl (.inl (by kernel_rfl)) rfl rfl) pa_nilA rfl) rfl rfl) (pa_consA (re_idx rfl hu1 (fun _ _ => rfl) (fun _ _ => rfl) (re_rb (re_var (i := 5) rfl (.inl (by kernel_rfl)) rfl rfl)) (re_rb (re_var (i := 8) rfl (.inr (.inl (by kernel_rfl))) rfl rfl))) pa_nilA rfl) rfl) rfl rfl)) (fun _ => rfl))))))) (pss_consR (ps_retR re_bl)
    pss_nilR) pss_nilR)
    (pss_consR (ps_asgR ND (i := 10) rfl (.inl (by kernel_rfl)) (rx_re (rx_lst (pa_consA (re_isi rfl (G.isi _ rfl) rfl G.n_isinstance (clsn_own (C := He.ga K "TieError") rfl G.g_TieError rfl rfl) (re_rb (re_var (i := 9) rfl (.inl (by kernel_rfl)) rfl rfl)) rfl) (pa_consA (re_isi rfl (G.isi _ rfl) rfl G.n_isinstance (clsn_own (C := He.ga K "Missing") rfl G.g_Missing rfl rfl) (re_rb (re_var (i := 9) rfl (.inl (by kernel_rfl)) rfl rfl)) rfl) (pa_consA (re_isi rfl (G.isi _ rfl) rfl G.n_isinstance (clsn_ty rfl G.n_ValueError bt_ValueError (by decide) (by decide) rfl) (re_rb (re_var (i := 9) rfl (.inl (by kernel_rfl)) rfl rfl)) rfl) (pa_consA (re_isi rfl (G.isi _ rfl) rfl G.n_isinstance (clsn_ty rfl G.n_LookupError bt_LookupError (by decide) (by decide) rfl) (re_rb (re_var (i := 9) rfl (.inl (by kernel_rfl)) rfl rfl)) rfl) (pa_consA (re_isi rfl (G.isi _ rfl) rfl G.n_isinstance (clsn_ty rfl G.n_IndexError bt_IndexError (by decide) (by decide) rfl) (re_rb (re_var (i := 9) rfl (.inl (by kernel_rfl)) rfl rfl)) rfl) pa_nilA rfl) rfl) rfl) rfl) rfl))) rfl (.inl rfl))
    (pss_consR (ps_ifR (pt_cmpT (cr_ne rfl hu) (ObjC.none fun _ _ => rfl) (plain_or (by decide)) rfl (re_rb (re_var (i := 10) rfl (.inl (by kernel_rfl)) rfl rfl)) (re_rb (rx_re (rx_lst (pa_consA (re_cmp cr_lt (ObjC.none fun _ _ => rfl) (plain_or (by decide)) rfl (re_rb (re_var (i := 8) rfl (.inr (.inl (by kernel_rfl))) rfl rfl)) (re_rb re_int)) (pa_consA (re_chain (cr_int op_le) cr_lt (re_rb re_int) (re_rb (re_var (i := 8) rfl (.inr (.inl (by kernel_rfl))) rfl rfl)) (re_rb re_int) rfl) (pa_consA (re_cmp cr_lt (ObjC.none fun _ _ => rfl) (plain_or (by decide)) rfl (re_rb (re_var (i := 8) rfl (.inr (.inl (by kernel_rfl))) rfl rfl)) (re_rb re_int)) (pa_consA (re_cmp (cr_int op_gt) (ObjC.none fun _ _ => rfl) (plain_or (by decide)) rfl (re_rb (re_var (i := 8) rfl (.inr (.inl (by kernel_rfl))) rfl rfl)) (re_rb re_int)) (pa_consA (re_cmp (cr_eq rfl hu) (ObjC.none fun _ _ => rfl) (plain_or (by decide)) rfl (re_rb (re_var (i := 8) rfl (.inr (.inl (by kernel_rfl))) rfl rfl)) (re_rb re_int)) pa_nilA rfl) rfl) rfl) rfl) rfl))))) (pss_consR (ps_retR re_bl)
    pss_nilR) pss_nilR)
    pss_nilR)))) (fun _ => rfl))
    (pss_consR (ps_retR (re_cmp (cr_eq rfl hu) (ObjC.none fun _ _ => rfl) (plain_or (by decide)) rfl (re_rb (rx_re (rx_bi (bi_len rfl) rfl G.n_len bt_len (by decide) (by decide) (pa_consB (re_rb (re_var (i := 6) rfl (.inl (by kernel_rfl)) rfl rfl)) pa_nilB rfl) rfl))) (re_rb re_int)))
    pss_nilR))))))))))
end
end LW
end

section
namespace LW
open PySem PySem.Spec L2 RX RI
open PySem.W (Frag)
abbrev row : PySem.W.OpenLaw := PySem.Challenge.rw_tiespan_k59_refusals_by_their_classes
def file : Str := PySem.Challenge.pw_tiespan_k59_refusals_by_their_classes.main.file
def tlValueError : List Value := [.type "ValueError", .type "Exception", .type "BaseException", .type "object"]
def tlLookupError : List Value := [.type "LookupError", .type "Exception", .type "BaseException", .type "object"]
def tlIndexError : List Value := [.type "IndexError", .type "LookupError", .type "Exception", .type "BaseException", .type "object"]
def xd_InvalidRatio : XD := ⟨"InvalidRatio", tlValueError, "ValueError", "ValueError.__new__", "ValueError.__init__", some "given", ⟨"__init__", "InvalidRatio.__init__", defArgs (inClass (top 3) 0), defBody (inClass (top 3) 0), defScope (inClass (top 3) 0)⟩⟩
def xd_InvalidRow : XD := ⟨"InvalidRow", tlValueError, "ValueError", "ValueError.__new__", "ValueError.__init__", some "at", ⟨"__init__", "InvalidRow.__init__", defArgs (inClass (top 4) 0), defBody (inClass (top 4) 0), defScope (inClass (top 4) 0)⟩⟩
def xd_InvalidName : XD := ⟨"InvalidName", tlValueError, "ValueError", "ValueError.__new__", "ValueError.__init__", some "name", ⟨"__init__", "InvalidName.__init__", defArgs (inClass (top 5) 0), defBody (inClass (top 5) 0), defScope (inClass (top 5) 0)⟩⟩
def xd_InvalidTie : XD := ⟨"InvalidTie", tlValueError, "ValueError", "ValueError.__new__", "ValueError.__init__", some "at", ⟨"__init__", "InvalidTie.__init__", defArgs (inClass (top 6) 0), defBody (inClass (top 6) 0), defScope (inClass (top 6) 0)⟩⟩
def xd_InvalidWish : XD := ⟨"InvalidWish", tlValueError, "ValueError", "ValueError.__new__", "ValueError.__init__", some "at", ⟨"__init__", "InvalidWish.__init__", defArgs (inClass (top 7) 0), defBody (inClass (top 7) 0), defScope (inClass (top 7) 0)⟩⟩
def xd_InvalidTimes : XD := ⟨"InvalidTimes", tlValueError, "ValueError", "ValueError.__new__", "ValueError.__init__", some "given", ⟨"__init__", "InvalidTimes.__init__", defArgs (inClass (top 8) 0), defBody (inClass (top 8) 0), defScope (inClass (top 8) 0)⟩⟩
def xd_InvalidLimit : XD := ⟨"InvalidLimit", tlValueError, "ValueError", "ValueError.__new__", "ValueError.__init__", some "given", ⟨"__init__", "InvalidLimit.__init__", defArgs (inClass (top 9) 0), defBody (inClass (top 9) 0), defScope (inClass (top 9) 0)⟩⟩
def xd_InvalidCommand : XD := ⟨"InvalidCommand", tlValueError, "ValueError", "ValueError.__new__", "ValueError.__init__", some "first", ⟨"__init__", "InvalidCommand.__init__", defArgs (inClass (top 10) 0), defBody (inClass (top 10) 0), defScope (inClass (top 10) 0)⟩⟩
def xd_NotTied : XD := ⟨"NotTied", tlValueError, "ValueError", "ValueError.__new__", "ValueError.__init__", some "many", ⟨"__init__", "NotTied.__init__", defArgs (inClass (top 11) 0), defBody (inClass (top 11) 0), defScope (inClass (top 11) 0)⟩⟩
def xd_SameName : XD := ⟨"SameName", tlValueError, "ValueError", "ValueError.__new__", "ValueError.__init__", some "name", ⟨"__init__", "SameName.__init__", defArgs (inClass (top 12) 0), defBody (inClass (top 12) 0), defScope (inClass (top 12) 0)⟩⟩
def xd_NamesDiffer : XD := ⟨"NamesDiffer", tlValueError, "ValueError", "ValueError.__new__", "ValueError.__init__", none, ⟨"__init__", "NamesDiffer.__init__", defArgs (inClass (top 13) 0), defBody (inClass (top 13) 0), defScope (inClass (top 13) 0)⟩⟩
def xd_EmptyFigure : XD := ⟨"EmptyFigure", tlValueError, "ValueError", "ValueError.__new__", "ValueError.__init__", none, ⟨"__init__", "EmptyFigure.__init__", defArgs (inClass (top 14) 0), defBody (inClass (top 14) 0), defScope (inClass (top 14) 0)⟩⟩
def xd_Impossible : XD := ⟨"Impossible", tlValueError, "ValueError", "ValueError.__new__", "ValueError.__init__", none, ⟨"__init__", "Impossible.__init__", defArgs (inClass (top 15) 0), defBody (inClass (top 15) 0), defScope (inClass (top 15) 0)⟩⟩
def xd_Possible : XD := ⟨"Possible", tlValueError, "ValueError", "ValueError.__new__", "ValueError.__init__", some "answer", ⟨"__init__", "Possible.__init__", defArgs (inClass (top 16) 0), defBody (inClass (top 16) 0), defScope (inClass (top 16) 0)⟩⟩
def xd_NotImplied : XD := ⟨"NotImplied", tlValueError, "ValueError", "ValueError.__new__", "ValueError.__init__", some "answer", ⟨"__init__", "NotImplied.__init__", defArgs (inClass (top 17) 0), defBody (inClass (top 17) 0), defScope (inClass (top 17) 0)⟩⟩
def xd_ParseError : XD := ⟨"ParseError", tlValueError, "ValueError", "ValueError.__new__", "ValueError.__init__", some "at", ⟨"__init__", "ParseError.__init__", defArgs (inClass (top 18) 0), defBody (inClass (top 18) 0), defScope (inClass (top 18) 0)⟩⟩
def xd_DuplicateLabel : XD := ⟨"DuplicateLabel", tlValueError, "ValueError", "ValueError.__new__", "ValueError.__init__", some "label", ⟨"__init__", "DuplicateLabel.__init__", defArgs (inClass (top 19) 0), defBody (inClass (top 19) 0), defScope (inClass (top 19) 0)⟩⟩
def xd_CapacityExceeded : XD := ⟨"CapacityExceeded", tlValueError, "ValueError", "ValueError.__new__", "ValueError.__init__", some "most", ⟨"__init__", "CapacityExceeded.__init__", defArgs (inClass (top 20) 0), defBody (inClass (top 20) 0), defScope (inClass (top 20) 0)⟩⟩
def xd_UnknownName : XD := ⟨"UnknownName", tlLookupError, "LookupError", "LookupError.__new__", "LookupError.__init__", some "name", ⟨"__init__", "UnknownName.__init__", defArgs (inClass (top 21) 0), defBody (inClass (top 21) 0), defScope (inClass (top 21) 0)⟩⟩
def xd_UnknownLabel : XD := ⟨"UnknownLabel", tlLookupError, "LookupError", "LookupError.__new__", "LookupError.__init__", some "label", ⟨"__init__", "UnknownLabel.__init__", defArgs (inClass (top 22) 0), defBody (inClass (top 22) 0), defScope (inClass (top 22) 0)⟩⟩
def xd_NothingLeft : XD := ⟨"NothingLeft", tlIndexError, "IndexError", "IndexError.__new__", "IndexError.__init__", none, ⟨"__init__", "NothingLeft.__init__", defArgs (inClass (top 23) 0), defBody (inClass (top 23) 0), defScope (inClass (top 23) 0)⟩⟩
def xds : List XD := [xd_InvalidRatio, xd_InvalidRow, xd_InvalidName, xd_InvalidTie, xd_InvalidWish, xd_InvalidTimes, xd_InvalidLimit, xd_InvalidCommand, xd_NotTied, xd_SameName, xd_NamesDiffer, xd_EmptyFigure, xd_Impossible, xd_Possible, xd_NotImplied, xd_ParseError, xd_DuplicateLabel, xd_CapacityExceeded, xd_UnknownName, xd_UnknownLabel, xd_NothingLeft]
def subs : List Sub := subTab.map fun e => (tyK Mn e.1, tyK Mn e.2.1, e.2.2)
def dd__law_feed : He.DefD := ⟨("_law_feed", none), "_law_feed", "_law_feed", defArgs (top 25), defBody (top 25), defScope (top 25), [], []⟩
def dd__law_draw : He.DefD := ⟨("_law_draw", none), "_law_draw", "_law_draw", defArgs (top 26), defBody (top 26), defScope (top 26), [], []⟩
def dd__law_any : He.DefD := ⟨("_law_any", none), "_law_any", "_law_any", defArgs (top 27), defBody (top 27), defScope (top 27), [], []⟩
def dd__law_same : He.DefD := ⟨("_law_same", none), "_law_same", "_law_same", defArgs (top 28), defBody (top 28), defScope (top 28), [], []⟩
def dd__law_made_errors : He.DefD := ⟨("_law_made_errors", none), "_law_made_errors", "_law_made_errors", defArgs (top 29), defBody (top 29), defScope (top 29), [], []⟩
def dd__law_flags : He.DefD := ⟨("_law_flags", none), "_law_flags", "_law_flags", defArgs (top 30), defBody (top 30), defScope (top 30), [], []⟩
def dd__law_value_of : He.DefD := ⟨("_law_value_of", none), "_law_value_of", "_law_value_of", defArgs (top 31), defBody (top 31), defScope (top 31), [], []⟩
def dd_law : He.DefD := ⟨("law", none), "law", "law", defArgs (top 32), defBody (top 32), defScope (top 32), [], []⟩
def fns : List He.DefD := [dd__law_feed, dd__law_draw, dd__law_any, dd__law_same, dd__law_made_errors, dd__law_flags, dd__law_value_of, dd_law]
def fas0 : List He.Fa := [.free "IndexError", .free "LookupError", .free "ValueError", .free "all", .free "bool", .free "dict", .free "int", .free "isinstance", .free "len", .free "list", .free "range", .free "sorted", .free "str", .free "super", .free "tuple", .free "zip", .glo "CapacityExceeded", .glo "DuplicateLabel", .glo "EmptyFigure", .glo "Impossible", .glo "InvalidCommand", .glo "InvalidLimit", .glo "InvalidName", .glo "InvalidRatio", .glo "InvalidRow", .glo "InvalidTie", .glo "InvalidTimes", .glo "InvalidWish", .glo "Missing", .glo "NamesDiffer"]
def fas1 : List He.Fa := [.glo "NotImplied", .glo "NotTied", .glo "NothingLeft", .glo "ParseError", .glo "Possible", .glo "SameName", .glo "TieError", .glo "UnknownLabel", .glo "UnknownName", .glo "_law_feed", .glo "_law_draw", .glo "_law_any", .glo "_law_same", .glo "_law_made_errors", .glo "_law_flags", .glo "_law_value_of", .glo "law"]
def fas : List He.Fa := fas0 ++ fas1
def nms0 : List Str := ["TieError", "Missing", "InvalidRatio", "InvalidRow", "InvalidName", "InvalidTie", "InvalidWish", "InvalidTimes", "InvalidLimit", "InvalidCommand", "NotTied", "SameName", "NamesDiffer", "EmptyFigure", "Impossible", "Possible", "NotImplied", "ParseError", "DuplicateLabel", "CapacityExceeded", "UnknownName", "UnknownLabel", "NothingLeft", "_law_feed", "_law_draw", "_law_any", "_law_same", "_law_made_errors", "_law_flags", "_law_value_of"]
def nms : List Str := nms0
abbrev R : PySem.W.OpenRow := PySem.W.OpenLaw.row row
abbrev hk : PySem.W.Hook := hookR 6 file fas fns xds subs
def ob (s : PySem.W.SharedT) : AlR := obsRG 6 file fas fns xds subs (HandSHeadRun.getT s)
theorem ob_eq (s : PySem.W.SharedT) : ob s = hk.obs s.abs := obsRG_eq (HandSHeadRun.getT_eq s)
theorem run (w : World) : HandSHeadRun.RunEq R (PySem.W.view R.prog [32]) hk ob 40000 nms w := by
  intro os
  kernel_rfl
end LW
end

section
namespace LW
open PySem PySem.Spec L2 RX RI
open PySem.W (Frag)
/-- the defs as they stand -/
structure Fs (K : Frag) (mg : Str → Option Value) : Prop where
  d__law_feed : ∃ fd, FunD K "_law_feed" "_law_feed" (defArgs (top 25)) (defBody (top 25)) (defScope (top 25)) [] [] (He.ga K "_law_feed") fd
  m__law_feed : mg "_law_feed" = some (.ref (He.ga K "_law_feed"))
  d__law_draw : ∃ fd, FunD K "_law_draw" "_law_draw" (defArgs (top 26)) (defBody (top 26)) (defScope (top 26)) [] [] (He.ga K "_law_draw") fd
  m__law_draw : mg "_law_draw" = some (.ref (He.ga K "_law_draw"))
  d__law_any : ∃ fd, FunD K "_law_any" "_law_any" (defArgs (top 27)) (defBody (top 27)) (defScope (top 27)) [] [] (He.ga K "_law_any") fd
  m__law_any : mg "_law_any" = some (.ref (He.ga K "_law_any"))
  d__law_same : ∃ fd, FunD K "_law_same" "_law_same" (defArgs (top 28)) (defBody (top 28)) (defScope (top 28)) [] [] (He.ga K "_law_same") fd
  m__law_same : mg "_law_same" = some (.ref (He.ga K "_law_same"))
  d__law_made_errors : ∃ fd, FunD K "_law_made_errors" "_law_made_errors" (defArgs (top 29)) (defBody (top 29)) (defScope (top 29)) [] [] (He.ga K "_law_made_errors") fd
  m__law_made_errors : mg "_law_made_errors" = some (.ref (He.ga K "_law_made_errors"))
  d__law_flags : ∃ fd, FunD K "_law_flags" "_law_flags" (defArgs (top 30)) (defBody (top 30)) (defScope (top 30)) [] [] (He.ga K "_law_flags") fd
  m__law_flags : mg "_law_flags" = some (.ref (He.ga K "_law_flags"))
  d__law_value_of : ∃ fd, FunD K "_law_value_of" "_law_value_of" (defArgs (top 31)) (defBody (top 31)) (defScope (top 31)) [] [] (He.ga K "_law_value_of") fd
  m__law_value_of : mg "_law_value_of" = some (.ref (He.ga K "_law_value_of"))
  d_law : ∃ fd, FunD K "law" "law" (defArgs (top 32)) (defBody (top 32)) (defScope (top 32)) [] [] (He.ga K "law") fd
  m_law : mg "law" = some (.ref (He.ga K "law"))
section
variable {P : Program} {w : World} {K : Frag} {mg : Str → Option Value} {base : Heap} {n : Nat}
theorem cal_of {x : Str} {id ar : Nat} {fa : Addr} {fd : FuncData} {ps : List Str} {params : Arguments} {body : List Stmt} {scope : Scope} (F : FunD K x x params body scope [] [] fa fd) (hm : mg x = some (.ref fa)) (hl : ps.length = ar) (hn : npar B id = ar)
    (hb : ∀ (kV doc pm : Value) (an : Option Addr) (cdv ct : Value) (us : List Value), us.length = ps.length → bindArgs (PySem.W.fnOf x x params body scope .none kV doc pm an cdv ct) ⟨us, []⟩ = pure (ps.zip us)) (Fk : FnOk P w K mg base CX0 (2 * n + 2) fa fd ps (spF (Mn K) B (evC B n) id)) : Cal P w K mg base (Mn K) B n x id ar :=
  ⟨fa, fd, ps, hm, F.kp, F.bindsN hb, hl, hn, Fk⟩
theorem all_ok (X : Gx P w K mg base) (F : Fs K mg) : ∀ n, Gf P w K mg base n := by
  intro n
  induction n with
  | zero =>
    obtain ⟨fd__law_feed, F__law_feed⟩ := F.d__law_feed
    obtain ⟨fd__law_draw, F__law_draw⟩ := F.d__law_draw
    obtain ⟨fd__law_any, F__law_any⟩ := F.d__law_any
    obtain ⟨fd__law_same, F__law_same⟩ := F.d__law_same
    obtain ⟨fd__law_made_errors, F__law_made_errors⟩ := F.d__law_made_errors
    obtain ⟨fd__law_flags, F__law_flags⟩ := F.d__law_flags
    obtain ⟨fd__law_value_of, F__law_value_of⟩ := F.d__law_value_of
    obtain ⟨fd_law, F_law⟩ := F.d_law
    exact { X with
      f__law_feed := cal_of (ps := ["_law_script"]) F__law_feed F.m__law_feed rfl rfl (fun _ _ _ _ _ _ us hl => match us, hl with | [_], _ => rfl) (fn_zero rfl)
      f__law_draw := cal_of (ps := ["_law_feed_here", "_law_many"]) F__law_draw F.m__law_draw rfl rfl (fun _ _ _ _ _ _ us hl => match us, hl with | [_, _], _ => rfl) (fn_zero rfl)
      f__law_any := cal_of (ps := ["_law_feed_here", "_law_row"]) F__law_any F.m__law_any rfl rfl (fun _ _ _ _ _ _ us hl => match us, hl with | [_, _], _ => rfl) (fn_zero rfl)
      f__law_same := cal_of (ps := ["_law_found", "_law_due"]) F__law_same F.m__law_same rfl rfl (fun _ _ _ _ _ _ us hl => match us, hl with | [_, _], _ => rfl) (fn_zero rfl)
      f__law_made_errors := cal_of (ps := ["_law_number", "_law_word"]) F__law_made_errors F.m__law_made_errors rfl rfl (fun _ _ _ _ _ _ us hl => match us, hl with | [_, _], _ => rfl) (fn_zero rfl)
      f__law_flags := cal_of (ps := ["_law_e"]) F__law_flags F.m__law_flags rfl rfl (fun _ _ _ _ _ _ us hl => match us, hl with | [_], _ => rfl) (fn_zero rfl)
      f__law_value_of := cal_of (ps := ["_law_e"]) F__law_value_of F.m__law_value_of rfl rfl (fun _ _ _ _ _ _ us hl => match us, hl with | [_], _ => rfl) (fn_zero rfl)
      f_law := cal_of (ps := ["_law_script"]) F_law F.m_law rfl rfl (fun _ _ _ _ _ _ us hl => match us, hl with | [_], _ => rfl) (fn_zero rfl)
    }
  | succ n ih =>
    obtain ⟨fd__law_feed, F__law_feed⟩ := F.d__law_feed
    obtain ⟨fd__law_draw, F__law_draw⟩ := F.d__law_draw
    obtain ⟨fd__law_any, F__law_any⟩ := F.d__law_any
    obtain ⟨fd__law_same, F__law_same⟩ := F.d__law_same
    obtain ⟨fd__law_made_errors, F__law_made_errors⟩ := F.d__law_made_errors
    obtain ⟨fd__law_flags, F__law_flags⟩ := F.d__law_flags
    obtain ⟨fd__law_value_of, F__law_value_of⟩ := F.d__law_value_of
    obtain ⟨fd_law, F_law⟩ := F.d_law
    exact { X with
      f__law_feed := cal_of (ps := ["_law_script"]) F__law_feed F.m__law_feed rfl rfl (fun _ _ _ _ _ _ us hl => match us, hl with | [_], _ => rfl) (ok__law_feed ih F__law_feed)
      f__law_draw := cal_of (ps := ["_law_feed_here", "_law_many"]) F__law_draw F.m__law_draw rfl rfl (fun _ _ _ _ _ _ us hl => match us, hl with | [_, _], _ => rfl) (ok__law_draw ih F__law_draw)
      f__law_any := cal_of (ps := ["_law_feed_here", "_law_row"]) F__law_any F.m__law_any rfl rfl (fun _ _ _ _ _ _ us hl => match us, hl with | [_, _], _ => rfl) (ok__law_any ih F__law_any)
      f__law_same := cal_of (ps := ["_law_found", "_law_due"]) F__law_same F.m__law_same rfl rfl (fun _ _ _ _ _ _ us hl => match us, hl with | [_, _], _ => rfl) (ok__law_same ih F__law_same)
      f__law_made_errors := cal_of (ps := ["_law_number", "_law_word"]) F__law_made_errors F.m__law_made_errors rfl rfl (fun _ _ _ _ _ _ us hl => match us, hl with | [_, _], _ => rfl) (ok__law_made_errors ih F__law_made_errors)
      f__law_flags := cal_of (ps := ["_law_e"]) F__law_flags F.m__law_flags rfl rfl (fun _ _ _ _ _ _ us hl => match us, hl with | [_], _ => rfl) (ok__law_flags ih F__law_flags)
      f__law_value_of := cal_of (ps := ["_law_e"]) F__law_value_of F.m__law_value_of rfl rfl (fun _ _ _ _ _ _ us hl => match us, hl with | [_], _ => rfl) (ok__law_value_of ih F__law_value_of)
      f_law := cal_of (ps := ["_law_script"]) F_law F.m_law rfl rfl (fun _ _ _ _ _ _ us hl => match us, hl with | [_], _ => rfl) (ok_law ih F_law)
    }
end
theorem inj : ∀ K : Frag, (Mn K).Inj := fun K => fnN_inj (by decide +kernel) (by decide +kernel)
theorem sub_ok {K : Frag} {file : Str} {fa : List He.Fa} {fn : List He.DefD} {xs : List XD} (c : SaysR file fa fn xs subs K) : ∀ k t b, B.sub k t = some b → ∀ tv cv, tyV (Mn K) k = some tv → tyV (Mn K) t = some cv → PySem.W.kitOne K tv cv = some b := by
  intro k t b h tv cv h1 h2
  have h' : (subTab.find? fun e => e.1 == k && e.2.1 == t).map (·.2.2) = some b := h
  cases q : subTab.find? fun e => e.1 == k && e.2.1 == t with
  | none => rw [q] at h'; cases h'
  | some e =>
    rw [q] at h'
    cases h'
    have hp := List.find?_some q
    obtain ⟨e1, e2⟩ := Bool.and_eq_true_iff.mp hp
    have e1 := eq_of_beq e1
    have e2 := eq_of_beq e2
    have m := List.mem_of_find?_eq_some q
    have r := c.sub (s := (tyK Mn e.1, tyK Mn e.2.1, e.2.2)) (List.mem_map.mpr ⟨e, m, rfl⟩)
    dsimp only at r
    unfold tyK at r
    rw [e1, e2, h1, h2] at r
    exact r
theorem xf_InvalidRatio {K : Frag} (c : SaysR file fas fns xds subs K) : XdF row.prog K xd_InvalidRatio tlValueError := c.xd (d := xd_InvalidRatio) (List.mem_of_getElem? (i := 0) rfl) (by kernel_rfl) F.excBase_ValueError PySem.W.kxs_ValueError (by decide) (fun self => F.store_ValueError.passes self) (by decide +kernel)
theorem xf_InvalidRow {K : Frag} (c : SaysR file fas fns xds subs K) : XdF row.prog K xd_InvalidRow tlValueError := c.xd (d := xd_InvalidRow) (List.mem_of_getElem? (i := 1) rfl) (by kernel_rfl) F.excBase_ValueError PySem.W.kxs_ValueError (by decide) (fun self => F.store_ValueError.passes self) (by decide +kernel)
theorem xf_InvalidName {K : Frag} (c : SaysR file fas fns xds subs K) : XdF row.prog K xd_InvalidName tlValueError := c.xd (d := xd_InvalidName) (List.mem_of_getElem? (i := 2) rfl) (by kernel_rfl) F.excBase_ValueError PySem.W.kxs_ValueError (by decide) (fun self => F.store_ValueError.passes self) (by decide +kernel)
theorem xf_InvalidTie {K : Frag} (c : SaysR file fas fns xds subs K) : XdF row.prog K xd_InvalidTie tlValueError := c.xd (d := xd_InvalidTie) (List.mem_of_getElem? (i := 3) rfl) (by kernel_rfl) F.excBase_ValueError PySem.W.kxs_ValueError (by decide) (fun self => F.store_ValueError.passes self) (by decide +kernel)
theorem xf_InvalidWish {K : Frag} (c : SaysR file fas fns xds subs K) : XdF row.prog K xd_InvalidWish tlValueError := c.xd (d := xd_InvalidWish) (List.mem_of_getElem? (i := 4) rfl) (by kernel_rfl) F.excBase_ValueError PySem.W.kxs_ValueError (by decide) (fun self => F.store_ValueError.passes self) (by decide +kernel)
theorem xf_InvalidTimes {K : Frag} (c : SaysR file fas fns xds subs K) : XdF row.prog K xd_InvalidTimes tlValueError := c.xd (d := xd_InvalidTimes) (List.mem_of_getElem? (i := 5) rfl) (by kernel_rfl) F.excBase_ValueError PySem.W.kxs_ValueError (by decide) (fun self => F.store_ValueError.passes self) (by decide +kernel)
theorem xf_InvalidLimit {K : Frag} (c : SaysR file fas fns xds subs K) : XdF row.prog K xd_InvalidLimit tlValueError := c.xd (d := xd_InvalidLimit) (List.mem_of_getElem? (i := 6) rfl) (by kernel_rfl) F.excBase_ValueError PySem.W.kxs_ValueError (by decide) (fun self => F.store_ValueError.passes self) (by decide +kernel)
theorem xf_InvalidCommand {K : Frag} (c : SaysR file fas fns xds subs K) : XdF row.prog K xd_InvalidCommand tlValueError := c.xd (d := xd_InvalidCommand) (List.mem_of_getElem? (i := 7) rfl) (by kernel_rfl) F.excBase_ValueError PySem.W.kxs_ValueError (by decide) (fun self => F.store_ValueError.passes self) (by decide +kernel)
theorem xf_NotTied {K : Frag} (c : SaysR file fas fns xds subs K) : XdF row.prog K xd_NotTied tlValueError := c.xd (d := xd_NotTied) (List.mem_of_getElem? (i := 8) rfl) (by kernel_rfl) F.excBase_ValueError PySem.W.kxs_ValueError (by decide) (fun self => F.store_ValueError.passes self) (by decide +kernel)
theorem xf_SameName {K : Frag} (c : SaysR file fas fns xds subs K) : XdF row.prog K xd_SameName tlValueError := c.xd (d := xd_SameName) (List.mem_of_getElem? (i := 9) rfl) (by kernel_rfl) F.excBase_ValueError PySem.W.kxs_ValueError (by decide) (fun self => F.store_ValueError.passes self) (by decide +kernel)
theorem xf_NamesDiffer {K : Frag} (c : SaysR file fas fns xds subs K) : XdF row.prog K xd_NamesDiffer tlValueError := c.xd (d := xd_NamesDiffer) (List.mem_of_getElem? (i := 10) rfl) (by kernel_rfl) F.excBase_ValueError PySem.W.kxs_ValueError (by decide) (fun self => F.store_ValueError.passes self) (by decide +kernel)
theorem xf_EmptyFigure {K : Frag} (c : SaysR file fas fns xds subs K) : XdF row.prog K xd_EmptyFigure tlValueError := c.xd (d := xd_EmptyFigure) (List.mem_of_getElem? (i := 11) rfl) (by kernel_rfl) F.excBase_ValueError PySem.W.kxs_ValueError (by decide) (fun self => F.store_ValueError.passes self) (by decide +kernel)
theorem xf_Impossible {K : Frag} (c : SaysR file fas fns xds subs K) : XdF row.prog K xd_Impossible tlValueError := c.xd (d := xd_Impossible) (List.mem_of_getElem? (i := 12) rfl) (by kernel_rfl) F.excBase_ValueError PySem.W.kxs_ValueError (by decide) (fun self => F.store_ValueError.passes self) (by decide +kernel)
theorem xf_Possible {K : Frag} (c : SaysR file fas fns xds subs K) : XdF row.prog K xd_Possible tlValueError := c.xd (d := xd_Possible) (List.mem_of_getElem? (i := 13) rfl) (by kernel_rfl) F.excBase_ValueError PySem.W.kxs_ValueError (by decide) (fun self => F.store_ValueError.passes self) (by decide +kernel)
theorem xf_NotImplied {K : Frag} (c : SaysR file fas fns xds subs K) : XdF row.prog K xd_NotImplied tlValueError := c.xd (d := xd_NotImplied) (List.mem_of_getElem? (i := 14) rfl) (by kernel_rfl) F.excBase_ValueError PySem.W.kxs_ValueError (by decide) (fun self => F.store_ValueError.passes self) (by decide +kernel)
theorem xf_ParseError {K : Frag} (c : SaysR file fas fns xds subs K) : XdF row.prog K xd_ParseError tlValueError := c.xd (d := xd_ParseError) (List.mem_of_getElem? (i := 15) rfl) (by kernel_rfl) F.excBase_ValueError PySem.W.kxs_ValueError (by decide) (fun self => F.store_ValueError.passes self) (by decide +kernel)
theorem xf_DuplicateLabel {K : Frag} (c : SaysR file fas fns xds subs K) : XdF row.prog K xd_DuplicateLabel tlValueError := c.xd (d := xd_DuplicateLabel) (List.mem_of_getElem? (i := 16) rfl) (by kernel_rfl) F.excBase_ValueError PySem.W.kxs_ValueError (by decide) (fun self => F.store_ValueError.passes self) (by decide +kernel)
theorem xf_CapacityExceeded {K : Frag} (c : SaysR file fas fns xds subs K) : XdF row.prog K xd_CapacityExceeded tlValueError := c.xd (d := xd_CapacityExceeded) (List.mem_of_getElem? (i := 17) rfl) (by kernel_rfl) F.excBase_ValueError PySem.W.kxs_ValueError (by decide) (fun self => F.store_ValueError.passes self) (by decide +kernel)
theorem xf_UnknownName {K : Frag} (c : SaysR file fas fns xds subs K) : XdF row.prog K xd_UnknownName tlLookupError := c.xd (d := xd_UnknownName) (List.mem_of_getElem? (i := 18) rfl) (by kernel_rfl) F.excBase_LookupError PySem.W.kxs_LookupError (by decide) (fun self => F.store_LookupError.passes self) (by decide +kernel)
theorem xf_UnknownLabel {K : Frag} (c : SaysR file fas fns xds subs K) : XdF row.prog K xd_UnknownLabel tlLookupError := c.xd (d := xd_UnknownLabel) (List.mem_of_getElem? (i := 19) rfl) (by kernel_rfl) F.excBase_LookupError PySem.W.kxs_LookupError (by decide) (fun self => F.store_LookupError.passes self) (by decide +kernel)
theorem xf_NothingLeft {K : Frag} (c : SaysR file fas fns xds subs K) : XdF row.prog K xd_NothingLeft tlIndexError := c.xd (d := xd_NothingLeft) (List.mem_of_getElem? (i := 20) rfl) (by kernel_rfl) F.excBase_IndexError PySem.W.kxs_IndexError (by decide) (fun self => F.store_IndexError.passes self) (by decide +kernel)
theorem cx_all {K : Frag} {Q : Nat → Addr → Prop}
    (h_InvalidRatio : Q 2 (He.ga K "InvalidRatio"))
    (h_InvalidRow : Q 3 (He.ga K "InvalidRow"))
    (h_InvalidName : Q 4 (He.ga K "InvalidName"))
    (h_InvalidTie : Q 5 (He.ga K "InvalidTie"))
    (h_InvalidWish : Q 6 (He.ga K "InvalidWish"))
    (h_InvalidTimes : Q 7 (He.ga K "InvalidTimes"))
    (h_InvalidLimit : Q 8 (He.ga K "InvalidLimit"))
    (h_InvalidCommand : Q 9 (He.ga K "InvalidCommand"))
    (h_NotTied : Q 10 (He.ga K "NotTied"))
    (h_SameName : Q 11 (He.ga K "SameName"))
    (h_NamesDiffer : Q 12 (He.ga K "NamesDiffer"))
    (h_EmptyFigure : Q 13 (He.ga K "EmptyFigure"))
    (h_Impossible : Q 14 (He.ga K "Impossible"))
    (h_Possible : Q 15 (He.ga K "Possible"))
    (h_NotImplied : Q 16 (He.ga K "NotImplied"))
    (h_ParseError : Q 17 (He.ga K "ParseError"))
    (h_DuplicateLabel : Q 18 (He.ga K "DuplicateLabel"))
    (h_CapacityExceeded : Q 19 (He.ga K "CapacityExceeded"))
    (h_UnknownName : Q 20 (He.ga K "UnknownName"))
    (h_UnknownLabel : Q 21 (He.ga K "UnknownLabel"))
    (h_NothingLeft : Q 22 (He.ga K "NothingLeft"))
    : ∀ c C, (Mn K).CX c = some C → Q c C := by
  intro c C h
  replace h : cxT K c = some C := h
  unfold cxT at h
  split at h
  · cases h; exact h_InvalidRatio
  · cases h; exact h_InvalidRow
  · cases h; exact h_InvalidName
  · cases h; exact h_InvalidTie
  · cases h; exact h_InvalidWish
  · cases h; exact h_InvalidTimes
  · cases h; exact h_InvalidLimit
  · cases h; exact h_InvalidCommand
  · cases h; exact h_NotTied
  · cases h; exact h_SameName
  · cases h; exact h_NamesDiffer
  · cases h; exact h_EmptyFigure
  · cases h; exact h_Impossible
  · cases h; exact h_Possible
  · cases h; exact h_NotImplied
  · cases h; exact h_ParseError
  · cases h; exact h_DuplicateLabel
  · cases h; exact h_CapacityExceeded
  · cases h; exact h_UnknownName
  · cases h; exact h_UnknownLabel
  · cases h; exact h_NothingLeft
  · cases h
theorem xok0 {P : Program} {K : Frag} {d : XD} {bm : List Value} {f : Nat} {C : Addr} (D : XdF P K d bm) (hC : C = He.ga K d.cls) (h : decide (f = 0) = true) : PySem.W.findIn K (.ref C) (fnN flds f) = some none := by
  subst hC
  rw [of_decide_eq_true h]
  exact D.tag
theorem xok1 {P : Program} {K : Frag} {d : XD} {bm : List Value} {f fi : Nat} {C : Addr} (D : XdF P K d bm) (hC : C = He.ga K d.cls) (hf : d.fld = some (fnN flds fi)) (h : (decide (f = 0) || decide (f = fi)) = true) : PySem.W.findIn K (.ref C) (fnN flds f) = some none := by
  subst hC
  rcases Bool.or_eq_true_iff.mp h with h | h
  · rw [of_decide_eq_true h]
    exact D.tag
  · rw [of_decide_eq_true h]
    exact D.fld _ hf
theorem cls_ok {K : Frag} (c : SaysR file fas fns xds subs K) (X : Cx) (hX : X.K = K) : ClsOk X (Mn K) B := by
  subst hX
  exact ⟨fun _ _ h => (by cases h), fun _ _ _ h => (by cases h), cx_all (K := X.K) (Q := fun _ C => XfC X.K C) (xf_InvalidRatio c |>.xf) (xf_InvalidRow c |>.xf) (xf_InvalidName c |>.xf) (xf_InvalidTie c |>.xf) (xf_InvalidWish c |>.xf) (xf_InvalidTimes c |>.xf) (xf_InvalidLimit c |>.xf) (xf_InvalidCommand c |>.xf) (xf_NotTied c |>.xf) (xf_SameName c |>.xf) (xf_NamesDiffer c |>.xf) (xf_EmptyFigure c |>.xf) (xf_Impossible c |>.xf) (xf_Possible c |>.xf) (xf_NotImplied c |>.xf) (xf_ParseError c |>.xf) (xf_DuplicateLabel c |>.xf) (xf_CapacityExceeded c |>.xf) (xf_UnknownName c |>.xf) (xf_UnknownLabel c |>.xf) (xf_NothingLeft c |>.xf), fun c' C f h => (cx_all (K := X.K) (Q := fun c' C => B.xok c' f = true → PySem.W.findIn X.K (.ref C) (fnN flds f) = some none) (fun h => xok1 (xf_InvalidRatio c) rfl (by decide) h) (fun h => xok1 (xf_InvalidRow c) rfl (by decide) h) (fun h => xok1 (xf_InvalidName c) rfl (by decide) h) (fun h => xok1 (xf_InvalidTie c) rfl (by decide) h) (fun h => xok1 (xf_InvalidWish c) rfl (by decide) h) (fun h => xok1 (xf_InvalidTimes c) rfl (by decide) h) (fun h => xok1 (xf_InvalidLimit c) rfl (by decide) h) (fun h => xok1 (xf_InvalidCommand c) rfl (by decide) h) (fun h => xok1 (xf_NotTied c) rfl (by decide) h) (fun h => xok1 (xf_SameName c) rfl (by decide) h) (fun h => xok0 (xf_NamesDiffer c) rfl h) (fun h => xok0 (xf_EmptyFigure c) rfl h) (fun h => xok0 (xf_Impossible c) rfl h) (fun h => xok1 (xf_Possible c) rfl (by decide) h) (fun h => xok1 (xf_NotImplied c) rfl (by decide) h) (fun h => xok1 (xf_ParseError c) rfl (by decide) h) (fun h => xok1 (xf_DuplicateLabel c) rfl (by decide) h) (fun h => xok1 (xf_CapacityExceeded c) rfl (by decide) h) (fun h => xok1 (xf_UnknownName c) rfl (by decide) h) (fun h => xok1 (xf_UnknownLabel c) rfl (by decide) h) (fun h => xok0 (xf_NothingLeft c) rfl h)) c' C h⟩
theorem isi_ok {K : Frag} (c : SaysR file fas fns xds subs K) (X : Cx) (hX : X.K = K) : IsiOk X (Mn K) B := by
  subst hX
  exact ⟨c.isiF, fun _ _ h => (by cases h), fun c' C h => ⟨rfl, (cx_all (K := X.K) (Q := fun _ C => IsxC X.K C) (xf_InvalidRatio c |>.is) (xf_InvalidRow c |>.is) (xf_InvalidName c |>.is) (xf_InvalidTie c |>.is) (xf_InvalidWish c |>.is) (xf_InvalidTimes c |>.is) (xf_InvalidLimit c |>.is) (xf_InvalidCommand c |>.is) (xf_NotTied c |>.is) (xf_SameName c |>.is) (xf_NamesDiffer c |>.is) (xf_EmptyFigure c |>.is) (xf_Impossible c |>.is) (xf_Possible c |>.is) (xf_NotImplied c |>.is) (xf_ParseError c |>.is) (xf_DuplicateLabel c |>.is) (xf_CapacityExceeded c |>.is) (xf_UnknownName c |>.is) (xf_UnknownLabel c |>.is) (xf_NothingLeft c |>.is)) c' C h⟩, sub_ok c⟩
theorem xm_InvalidRatio {w : World} {K : Frag} {mg : Str → Option Value} {base : Heap} (c : SaysR file fas fns xds subs K) (hs : mg "super" = none) (hg : mg "InvalidRatio" = some (.ref (He.ga K "InvalidRatio"))) : XCal row.prog w K mg base (Mn K) B "InvalidRatio" 2 1 :=
  xcal1 (slf := "self") (pr := "given") (fi := 1) (d := xd_InvalidRatio) (xf_InvalidRatio c) rfl ⟨_, rfl, rfl⟩ ⟨by kernel_rfl, by kernel_rfl, by kernel_rfl, by kernel_rfl, by kernel_rfl, by decide +kernel, by decide +kernel, by kernel_rfl⟩ ⟨fun env => L2.plainOf _ env, fun _ _ _ _ _ _ => rfl⟩ (fun _ _ _ _ _ _ _ us hl => match us, hl with | [_, _], _ => rfl) hs (by decide) (by decide) (by decide) rfl rfl rfl rfl rfl hg
theorem xm_InvalidRow {w : World} {K : Frag} {mg : Str → Option Value} {base : Heap} (c : SaysR file fas fns xds subs K) (hs : mg "super" = none) (hg : mg "InvalidRow" = some (.ref (He.ga K "InvalidRow"))) : XCal row.prog w K mg base (Mn K) B "InvalidRow" 3 1 :=
  xcal1 (slf := "self") (pr := "at") (fi := 2) (d := xd_InvalidRow) (xf_InvalidRow c) rfl ⟨_, rfl, rfl⟩ ⟨by kernel_rfl, by kernel_rfl, by kernel_rfl, by kernel_rfl, by kernel_rfl, by decide +kernel, by decide +kernel, by kernel_rfl⟩ ⟨fun env => L2.plainOf _ env, fun _ _ _ _ _ _ => rfl⟩ (fun _ _ _ _ _ _ _ us hl => match us, hl with | [_, _], _ => rfl) hs (by decide) (by decide) (by decide) rfl rfl rfl rfl rfl hg
theorem xm_InvalidName {w : World} {K : Frag} {mg : Str → Option Value} {base : Heap} (c : SaysR file fas fns xds subs K) (hs : mg "super" = none) (hg : mg "InvalidName" = some (.ref (He.ga K "InvalidName"))) : XCal row.prog w K mg base (Mn K) B "InvalidName" 4 1 :=
  xcal1 (slf := "self") (pr := "name") (fi := 3) (d := xd_InvalidName) (xf_InvalidName c) rfl ⟨_, rfl, rfl⟩ ⟨by kernel_rfl, by kernel_rfl, by kernel_rfl, by kernel_rfl, by kernel_rfl, by decide +kernel, by decide +kernel, by kernel_rfl⟩ ⟨fun env => L2.plainOf _ env, fun _ _ _ _ _ _ => rfl⟩ (fun _ _ _ _ _ _ _ us hl => match us, hl with | [_, _], _ => rfl) hs (by decide) (by decide) (by decide) rfl rfl rfl rfl rfl hg
theorem xm_InvalidTie {w : World} {K : Frag} {mg : Str → Option Value} {base : Heap} (c : SaysR file fas fns xds subs K) (hs : mg "super" = none) (hg : mg "InvalidTie" = some (.ref (He.ga K "InvalidTie"))) : XCal row.prog w K mg base (Mn K) B "InvalidTie" 5 1 :=
  xcal1 (slf := "self") (pr := "at") (fi := 2) (d := xd_InvalidTie) (xf_InvalidTie c) rfl ⟨_, rfl, rfl⟩ ⟨by kernel_rfl, by kernel_rfl, by kernel_rfl, by kernel_rfl, by kernel_rfl, by decide +kernel, by decide +kernel, by kernel_rfl⟩ ⟨fun env => L2.plainOf _ env, fun _ _ _ _ _ _ => rfl⟩ (fun _ _ _ _ _ _ _ us hl => match us, hl with | [_, _], _ => rfl) hs (by decide) (by decide) (by decide) rfl rfl rfl rfl rfl hg
theorem xm_InvalidWish {w : World} {K : Frag} {mg : Str → Option Value} {base : Heap} (c : SaysR file fas fns xds subs K) (hs : mg "super" = none) (hg : mg "InvalidWish" = some (.ref (He.ga K "InvalidWish"))) : XCal row.prog w K mg base (Mn K) B "InvalidWish" 6 1 :=
  xcal1 (slf := "self") (pr := "at") (fi := 2) (d := xd_InvalidWish) (xf_InvalidWish c) rfl ⟨_, rfl, rfl⟩ ⟨by kernel_rfl, by kernel_rfl, by kernel_rfl, by kernel_rfl, by kernel_rfl, by decide +kernel, by decide +kernel, by kernel_rfl⟩ ⟨fun env => L2.plainOf _ env, fun _ _ _ _ _ _ => rfl⟩ (fun _ _ _ _ _ _ _ us hl => match us, hl with | [_, _], _ => rfl) hs (by decide) (by decide) (by decide) rfl rfl rfl rfl rfl hg
theorem xm_InvalidTimes {w : World} {K : Frag} {mg : Str → Option Value} {base : Heap} (c : SaysR file fas fns xds subs K) (hs : mg "super" = none) (hg : mg "InvalidTimes" = some (.ref (He.ga K "InvalidTimes"))) : XCal row.prog w K mg base (Mn K) B "InvalidTimes" 7 1 :=
  xcal1 (slf := "self") (pr := "given") (fi := 1) (d := xd_InvalidTimes) (xf_InvalidTimes c) rfl ⟨_, rfl, rfl⟩ ⟨by kernel_rfl, by kernel_rfl, by kernel_rfl, by kernel_rfl, by kernel_rfl, by decide +kernel, by decide +kernel, by kernel_rfl⟩ ⟨fun env => L2.plainOf _ env, fun _ _ _ _ _ _ => rfl⟩ (fun _ _ _ _ _ _ _ us hl => match us, hl with | [_, _], _ => rfl) hs (by decide) (by decide) (by decide) rfl rfl rfl rfl rfl hg
theorem xm_InvalidLimit {w : World} {K : Frag} {mg : Str → Option Value} {base : Heap} (c : SaysR file fas fns xds subs K) (hs : mg "super" = none) (hg : mg "InvalidLimit" = some (.ref (He.ga K "InvalidLimit"))) : XCal row.prog w K mg base (Mn K) B "InvalidLimit" 8 1 :=
  xcal1 (slf := "self") (pr := "given") (fi := 1) (d := xd_InvalidLimit) (xf_InvalidLimit c) rfl ⟨_, rfl, rfl⟩ ⟨by kernel_rfl, by kernel_rfl, by kernel_rfl, by kernel_rfl, by kernel_rfl, by decide +kernel, by decide +kernel, by kernel_rfl⟩ ⟨fun env => L2.plainOf _ env, fun _ _ _ _ _ _ => rfl⟩ (fun _ _ _ _ _ _ _ us hl => match us, hl with | [_, _], _ => rfl) hs (by decide) (by decide) (by decide) rfl rfl rfl rfl rfl hg
theorem xm_InvalidCommand {w : World} {K : Frag} {mg : Str → Option Value} {base : Heap} (c : SaysR file fas fns xds subs K) (hs : mg "super" = none) (hg : mg "InvalidCommand" = some (.ref (He.ga K "InvalidCommand"))) : XCal row.prog w K mg base (Mn K) B "InvalidCommand" 9 1 :=
  xcal1 (slf := "self") (pr := "first") (fi := 4) (d := xd_InvalidCommand) (xf_InvalidCommand c) rfl ⟨_, rfl, rfl⟩ ⟨by kernel_rfl, by kernel_rfl, by kernel_rfl, by kernel_rfl, by kernel_rfl, by decide +kernel, by decide +kernel, by kernel_rfl⟩ ⟨fun env => L2.plainOf _ env, fun _ _ _ _ _ _ => rfl⟩ (fun _ _ _ _ _ _ _ us hl => match us, hl with | [_, _], _ => rfl) hs (by decide) (by decide) (by decide) rfl rfl rfl rfl rfl hg
theorem xm_NotTied {w : World} {K : Frag} {mg : Str → Option Value} {base : Heap} (c : SaysR file fas fns xds subs K) (hs : mg "super" = none) (hg : mg "NotTied" = some (.ref (He.ga K "NotTied"))) : XCal row.prog w K mg base (Mn K) B "NotTied" 10 1 :=
  xcal1 (slf := "self") (pr := "many") (fi := 5) (d := xd_NotTied) (xf_NotTied c) rfl ⟨_, rfl, rfl⟩ ⟨by kernel_rfl, by kernel_rfl, by kernel_rfl, by kernel_rfl, by kernel_rfl, by decide +kernel, by decide +kernel, by kernel_rfl⟩ ⟨fun env => L2.plainOf _ env, fun _ _ _ _ _ _ => rfl⟩ (fun _ _ _ _ _ _ _ us hl => match us, hl with | [_, _], _ => rfl) hs (by decide) (by decide) (by decide) rfl rfl rfl rfl rfl hg
theorem xm_SameName {w : World} {K : Frag} {mg : Str → Option Value} {base : Heap} (c : SaysR file fas fns xds subs K) (hs : mg "super" = none) (hg : mg "SameName" = some (.ref (He.ga K "SameName"))) : XCal row.prog w K mg base (Mn K) B "SameName" 11 1 :=
  xcal1 (slf := "self") (pr := "name") (fi := 3) (d := xd_SameName) (xf_SameName c) rfl ⟨_, rfl, rfl⟩ ⟨by kernel_rfl, by kernel_rfl, by kernel_rfl, by kernel_rfl, by kernel_rfl, by decide +kernel, by decide +kernel, by kernel_rfl⟩ ⟨fun env => L2.plainOf _ env, fun _ _ _ _ _ _ => rfl⟩ (fun _ _ _ _ _ _ _ us hl => match us, hl with | [_, _], _ => rfl) hs (by decide) (by decide) (by decide) rfl rfl rfl rfl rfl hg
theorem xm_NamesDiffer {w : World} {K : Frag} {mg : Str → Option Value} {base : Heap} (c : SaysR file fas fns xds subs K) (hs : mg "super" = none) (hg : mg "NamesDiffer" = some (.ref (He.ga K "NamesDiffer"))) : XCal row.prog w K mg base (Mn K) B "NamesDiffer" 12 0 :=
  xcal0 (slf := "self") (d := xd_NamesDiffer) (xf_NamesDiffer c) rfl ⟨_, rfl, rfl⟩ ⟨by kernel_rfl, by kernel_rfl, by kernel_rfl, by kernel_rfl, by kernel_rfl, by decide +kernel, by decide +kernel, by kernel_rfl⟩ ⟨fun env => L2.plainOf _ env, fun _ _ _ _ _ _ => rfl⟩ (fun _ _ _ _ _ _ _ us hl => match us, hl with | [_], _ => rfl) hs (by decide) rfl rfl rfl hg
theorem xm_EmptyFigure {w : World} {K : Frag} {mg : Str → Option Value} {base : Heap} (c : SaysR file fas fns xds subs K) (hs : mg "super" = none) (hg : mg "EmptyFigure" = some (.ref (He.ga K "EmptyFigure"))) : XCal row.prog w K mg base (Mn K) B "EmptyFigure" 13 0 :=
  xcal0 (slf := "self") (d := xd_EmptyFigure) (xf_EmptyFigure c) rfl ⟨_, rfl, rfl⟩ ⟨by kernel_rfl, by kernel_rfl, by kernel_rfl, by kernel_rfl, by kernel_rfl, by decide +kernel, by decide +kernel, by kernel_rfl⟩ ⟨fun env => L2.plainOf _ env, fun _ _ _ _ _ _ => rfl⟩ (fun _ _ _ _ _ _ _ us hl => match us, hl with | [_], _ => rfl) hs (by decide) rfl rfl rfl hg
theorem xm_Impossible {w : World} {K : Frag} {mg : Str → Option Value} {base : Heap} (c : SaysR file fas fns xds subs K) (hs : mg "super" = none) (hg : mg "Impossible" = some (.ref (He.ga K "Impossible"))) : XCal row.prog w K mg base (Mn K) B "Impossible" 14 0 :=
  xcal0 (slf := "self") (d := xd_Impossible) (xf_Impossible c) rfl ⟨_, rfl, rfl⟩ ⟨by kernel_rfl, by kernel_rfl, by kernel_rfl, by kernel_rfl, by kernel_rfl, by decide +kernel, by decide +kernel, by kernel_rfl⟩ ⟨fun env => L2.plainOf _ env, fun _ _ _ _ _ _ => rfl⟩ (fun _ _ _ _ _ _ _ us hl => match us, hl with | [_], _ => rfl) hs (by decide) rfl rfl rfl hg
theorem xm_Possible {w : World} {K : Frag} {mg : Str → Option Value} {base : Heap} (c : SaysR file fas fns xds subs K) (hs : mg "super" = none) (hg : mg "Possible" = some (.ref (He.ga K "Possible"))) : XCal row.prog w K mg base (Mn K) B "Possible" 15 1 :=
  xcal1 (slf := "self") (pr := "answer") (fi := 6) (d := xd_Possible) (xf_Possible c) rfl ⟨_, rfl, rfl⟩ ⟨by kernel_rfl, by kernel_rfl, by kernel_rfl, by kernel_rfl, by kernel_rfl, by decide +kernel, by decide +kernel, by kernel_rfl⟩ ⟨fun env => L2.plainOf _ env, fun _ _ _ _ _ _ => rfl⟩ (fun _ _ _ _ _ _ _ us hl => match us, hl with | [_, _], _ => rfl) hs (by decide) (by decide) (by decide) rfl rfl rfl rfl rfl hg
theorem xm_NotImplied {w : World} {K : Frag} {mg : Str → Option Value} {base : Heap} (c : SaysR file fas fns xds subs K) (hs : mg "super" = none) (hg : mg "NotImplied" = some (.ref (He.ga K "NotImplied"))) : XCal row.prog w K mg base (Mn K) B "NotImplied" 16 1 :=
  xcal1 (slf := "self") (pr := "answer") (fi := 6) (d := xd_NotImplied) (xf_NotImplied c) rfl ⟨_, rfl, rfl⟩ ⟨by kernel_rfl, by kernel_rfl, by kernel_rfl, by kernel_rfl, by kernel_rfl, by decide +kernel, by decide +kernel, by kernel_rfl⟩ ⟨fun env => L2.plainOf _ env, fun _ _ _ _ _ _ => rfl⟩ (fun _ _ _ _ _ _ _ us hl => match us, hl with | [_, _], _ => rfl) hs (by decide) (by decide) (by decide) rfl rfl rfl rfl rfl hg
theorem xm_ParseError {w : World} {K : Frag} {mg : Str → Option Value} {base : Heap} (c : SaysR file fas fns xds subs K) (hs : mg "super" = none) (hg : mg "ParseError" = some (.ref (He.ga K "ParseError"))) : XCal row.prog w K mg base (Mn K) B "ParseError" 17 1 :=
  xcal1 (slf := "self") (pr := "at") (fi := 2) (d := xd_ParseError) (xf_ParseError c) rfl ⟨_, rfl, rfl⟩ ⟨by kernel_rfl, by kernel_rfl, by kernel_rfl, by kernel_rfl, by kernel_rfl, by decide +kernel, by decide +kernel, by kernel_rfl⟩ ⟨fun env => L2.plainOf _ env, fun _ _ _ _ _ _ => rfl⟩ (fun _ _ _ _ _ _ _ us hl => match us, hl with | [_, _], _ => rfl) hs (by decide) (by decide) (by decide) rfl rfl rfl rfl rfl hg
theorem xm_DuplicateLabel {w : World} {K : Frag} {mg : Str → Option Value} {base : Heap} (c : SaysR file fas fns xds subs K) (hs : mg "super" = none) (hg : mg "DuplicateLabel" = some (.ref (He.ga K "DuplicateLabel"))) : XCal row.prog w K mg base (Mn K) B "DuplicateLabel" 18 1 :=
  xcal1 (slf := "self") (pr := "label") (fi := 7) (d := xd_DuplicateLabel) (xf_DuplicateLabel c) rfl ⟨_, rfl, rfl⟩ ⟨by kernel_rfl, by kernel_rfl, by kernel_rfl, by kernel_rfl, by kernel_rfl, by decide +kernel, by decide +kernel, by kernel_rfl⟩ ⟨fun env => L2.plainOf _ env, fun _ _ _ _ _ _ => rfl⟩ (fun _ _ _ _ _ _ _ us hl => match us, hl with | [_, _], _ => rfl) hs (by decide) (by decide) (by decide) rfl rfl rfl rfl rfl hg
theorem xm_CapacityExceeded {w : World} {K : Frag} {mg : Str → Option Value} {base : Heap} (c : SaysR file fas fns xds subs K) (hs : mg "super" = none) (hg : mg "CapacityExceeded" = some (.ref (He.ga K "CapacityExceeded"))) : XCal row.prog w K mg base (Mn K) B "CapacityExceeded" 19 1 :=
  xcal1 (slf := "self") (pr := "most") (fi := 8) (d := xd_CapacityExceeded) (xf_CapacityExceeded c) rfl ⟨_, rfl, rfl⟩ ⟨by kernel_rfl, by kernel_rfl, by kernel_rfl, by kernel_rfl, by kernel_rfl, by decide +kernel, by decide +kernel, by kernel_rfl⟩ ⟨fun env => L2.plainOf _ env, fun _ _ _ _ _ _ => rfl⟩ (fun _ _ _ _ _ _ _ us hl => match us, hl with | [_, _], _ => rfl) hs (by decide) (by decide) (by decide) rfl rfl rfl rfl rfl hg
theorem xm_UnknownName {w : World} {K : Frag} {mg : Str → Option Value} {base : Heap} (c : SaysR file fas fns xds subs K) (hs : mg "super" = none) (hg : mg "UnknownName" = some (.ref (He.ga K "UnknownName"))) : XCal row.prog w K mg base (Mn K) B "UnknownName" 20 1 :=
  xcal1 (slf := "self") (pr := "name") (fi := 3) (d := xd_UnknownName) (xf_UnknownName c) rfl ⟨_, rfl, rfl⟩ ⟨by kernel_rfl, by kernel_rfl, by kernel_rfl, by kernel_rfl, by kernel_rfl, by decide +kernel, by decide +kernel, by kernel_rfl⟩ ⟨fun env => L2.plainOf _ env, fun _ _ _ _ _ _ => rfl⟩ (fun _ _ _ _ _ _ _ us hl => match us, hl with | [_, _], _ => rfl) hs (by decide) (by decide) (by decide) rfl rfl rfl rfl rfl hg
theorem xm_UnknownLabel {w : World} {K : Frag} {mg : Str → Option Value} {base : Heap} (c : SaysR file fas fns xds subs K) (hs : mg "super" = none) (hg : mg "UnknownLabel" = some (.ref (He.ga K "UnknownLabel"))) : XCal row.prog w K mg base (Mn K) B "UnknownLabel" 21 1 :=
  xcal1 (slf := "self") (pr := "label") (fi := 7) (d := xd_UnknownLabel) (xf_UnknownLabel c) rfl ⟨_, rfl, rfl⟩ ⟨by kernel_rfl, by kernel_rfl, by kernel_rfl, by kernel_rfl, by kernel_rfl, by decide +kernel, by decide +kernel, by kernel_rfl⟩ ⟨fun env => L2.plainOf _ env, fun _ _ _ _ _ _ => rfl⟩ (fun _ _ _ _ _ _ _ us hl => match us, hl with | [_, _], _ => rfl) hs (by decide) (by decide) (by decide) rfl rfl rfl rfl rfl hg
theorem xm_NothingLeft {w : World} {K : Frag} {mg : Str → Option Value} {base : Heap} (c : SaysR file fas fns xds subs K) (hs : mg "super" = none) (hg : mg "NothingLeft" = some (.ref (He.ga K "NothingLeft"))) : XCal row.prog w K mg base (Mn K) B "NothingLeft" 22 0 :=
  xcal0 (slf := "self") (d := xd_NothingLeft) (xf_NothingLeft c) rfl ⟨_, rfl, rfl⟩ ⟨by kernel_rfl, by kernel_rfl, by kernel_rfl, by kernel_rfl, by kernel_rfl, by decide +kernel, by decide +kernel, by kernel_rfl⟩ ⟨fun env => L2.plainOf _ env, fun _ _ _ _ _ _ => rfl⟩ (fun _ _ _ _ _ _ _ us hl => match us, hl with | [_], _ => rfl) hs (by decide) rfl rfl rfl hg
theorem gx_of {w : World} {K : Frag} {mg : Str → Option Value} {base : Heap} {h : Heap} (X : K.In h) (G : h.Ns mainGlobals mg) (c : SaysR file fas fns xds subs K) : Gx row.prog w K mg base :=
  { cls := cls_ok c, isi := isi_ok c, inj := inj K,
    n_IndexError := He.free_ok X G (c.d.fact 0 (f := .free "IndexError") rfl),
    n_LookupError := He.free_ok X G (c.d.fact 1 (f := .free "LookupError") rfl),
    n_ValueError := He.free_ok X G (c.d.fact 2 (f := .free "ValueError") rfl),
    n_all := He.free_ok X G (c.d.fact 3 (f := .free "all") rfl),
    n_bool := He.free_ok X G (c.d.fact 4 (f := .free "bool") rfl),
    n_dict := He.free_ok X G (c.d.fact 5 (f := .free "dict") rfl),
    n_int := He.free_ok X G (c.d.fact 6 (f := .free "int") rfl),
    n_isinstance := He.free_ok X G (c.d.fact 7 (f := .free "isinstance") rfl),
    n_len := He.free_ok X G (c.d.fact 8 (f := .free "len") rfl),
    n_list := He.free_ok X G (c.d.fact 9 (f := .free "list") rfl),
    n_range := He.free_ok X G (c.d.fact 10 (f := .free "range") rfl),
    n_sorted := He.free_ok X G (c.d.fact 11 (f := .free "sorted") rfl),
    n_str := He.free_ok X G (c.d.fact 12 (f := .free "str") rfl),
    n_super := He.free_ok X G (c.d.fact 13 (f := .free "super") rfl),
    n_tuple := He.free_ok X G (c.d.fact 14 (f := .free "tuple") rfl),
    n_zip := He.free_ok X G (c.d.fact 15 (f := .free "zip") rfl),
    g_CapacityExceeded := He.glo_ok X G (c.d.fact 16 (f := .glo "CapacityExceeded") rfl),
    g_DuplicateLabel := He.glo_ok X G (c.d.fact 17 (f := .glo "DuplicateLabel") rfl),
    g_EmptyFigure := He.glo_ok X G (c.d.fact 18 (f := .glo "EmptyFigure") rfl),
    g_Impossible := He.glo_ok X G (c.d.fact 19 (f := .glo "Impossible") rfl),
    g_InvalidCommand := He.glo_ok X G (c.d.fact 20 (f := .glo "InvalidCommand") rfl),
    g_InvalidLimit := He.glo_ok X G (c.d.fact 21 (f := .glo "InvalidLimit") rfl),
    g_InvalidName := He.glo_ok X G (c.d.fact 22 (f := .glo "InvalidName") rfl),
    g_InvalidRatio := He.glo_ok X G (c.d.fact 23 (f := .glo "InvalidRatio") rfl),
    g_InvalidRow := He.glo_ok X G (c.d.fact 24 (f := .glo "InvalidRow") rfl),
    g_InvalidTie := He.glo_ok X G (c.d.fact 25 (f := .glo "InvalidTie") rfl),
    g_InvalidTimes := He.glo_ok X G (c.d.fact 26 (f := .glo "InvalidTimes") rfl),
    g_InvalidWish := He.glo_ok X G (c.d.fact 27 (f := .glo "InvalidWish") rfl),
    g_Missing := He.glo_ok X G (c.d.fact 28 (f := .glo "Missing") rfl),
    g_NamesDiffer := He.glo_ok X G (c.d.fact 29 (f := .glo "NamesDiffer") rfl),
    g_NotImplied := He.glo_ok X G (c.d.fact 30 (f := .glo "NotImplied") rfl),
    g_NotTied := He.glo_ok X G (c.d.fact 31 (f := .glo "NotTied") rfl),
    g_NothingLeft := He.glo_ok X G (c.d.fact 32 (f := .glo "NothingLeft") rfl),
    g_ParseError := He.glo_ok X G (c.d.fact 33 (f := .glo "ParseError") rfl),
    g_Possible := He.glo_ok X G (c.d.fact 34 (f := .glo "Possible") rfl),
    g_SameName := He.glo_ok X G (c.d.fact 35 (f := .glo "SameName") rfl),
    g_TieError := He.glo_ok X G (c.d.fact 36 (f := .glo "TieError") rfl),
    g_UnknownLabel := He.glo_ok X G (c.d.fact 37 (f := .glo "UnknownLabel") rfl),
    g_UnknownName := He.glo_ok X G (c.d.fact 38 (f := .glo "UnknownName") rfl),
    x_InvalidRatio := xm_InvalidRatio c (He.free_ok X G (c.d.fact 13 (f := .free "super") rfl)) (He.glo_ok X G (c.d.fact 23 (f := .glo "InvalidRatio") rfl)),
    x_InvalidRow := xm_InvalidRow c (He.free_ok X G (c.d.fact 13 (f := .free "super") rfl)) (He.glo_ok X G (c.d.fact 24 (f := .glo "InvalidRow") rfl)),
    x_InvalidName := xm_InvalidName c (He.free_ok X G (c.d.fact 13 (f := .free "super") rfl)) (He.glo_ok X G (c.d.fact 22 (f := .glo "InvalidName") rfl)),
    x_InvalidTie := xm_InvalidTie c (He.free_ok X G (c.d.fact 13 (f := .free "super") rfl)) (He.glo_ok X G (c.d.fact 25 (f := .glo "InvalidTie") rfl)),
    x_InvalidWish := xm_InvalidWish c (He.free_ok X G (c.d.fact 13 (f := .free "super") rfl)) (He.glo_ok X G (c.d.fact 27 (f := .glo "InvalidWish") rfl)),
    x_InvalidTimes := xm_InvalidTimes c (He.free_ok X G (c.d.fact 13 (f := .free "super") rfl)) (He.glo_ok X G (c.d.fact 26 (f := .glo "InvalidTimes") rfl)),
    x_InvalidLimit := xm_InvalidLimit c (He.free_ok X G (c.d.fact 13 (f := .free "super") rfl)) (He.glo_ok X G (c.d.fact 21 (f := .glo "InvalidLimit") rfl)),
    x_InvalidCommand := xm_InvalidCommand c (He.free_ok X G (c.d.fact 13 (f := .free "super") rfl)) (He.glo_ok X G (c.d.fact 20 (f := .glo "InvalidCommand") rfl)),
    x_NotTied := xm_NotTied c (He.free_ok X G (c.d.fact 13 (f := .free "super") rfl)) (He.glo_ok X G (c.d.fact 31 (f := .glo "NotTied") rfl)),
    x_SameName := xm_SameName c (He.free_ok X G (c.d.fact 13 (f := .free "super") rfl)) (He.glo_ok X G (c.d.fact 35 (f := .glo "SameName") rfl)),
    x_NamesDiffer := xm_NamesDiffer c (He.free_ok X G (c.d.fact 13 (f := .free "super") rfl)) (He.glo_ok X G (c.d.fact 29 (f := .glo "NamesDiffer") rfl)),
    x_EmptyFigure := xm_EmptyFigure c (He.free_ok X G (c.d.fact 13 (f := .free "super") rfl)) (He.glo_ok X G (c.d.fact 18 (f := .glo "EmptyFigure") rfl)),
    x_Impossible := xm_Impossible c (He.free_ok X G (c.d.fact 13 (f := .free "super") rfl)) (He.glo_ok X G (c.d.fact 19 (f := .glo "Impossible") rfl)),
    x_Possible := xm_Possible c (He.free_ok X G (c.d.fact 13 (f := .free "super") rfl)) (He.glo_ok X G (c.d.fact 34 (f := .glo "Possible") rfl)),
    x_NotImplied := xm_NotImplied c (He.free_ok X G (c.d.fact 13 (f := .free "super") rfl)) (He.glo_ok X G (c.d.fact 30 (f := .glo "NotImplied") rfl)),
    x_ParseError := xm_ParseError c (He.free_ok X G (c.d.fact 13 (f := .free "super") rfl)) (He.glo_ok X G (c.d.fact 33 (f := .glo "ParseError") rfl)),
    x_DuplicateLabel := xm_DuplicateLabel c (He.free_ok X G (c.d.fact 13 (f := .free "super") rfl)) (He.glo_ok X G (c.d.fact 17 (f := .glo "DuplicateLabel") rfl)),
    x_CapacityExceeded := xm_CapacityExceeded c (He.free_ok X G (c.d.fact 13 (f := .free "super") rfl)) (He.glo_ok X G (c.d.fact 16 (f := .glo "CapacityExceeded") rfl)),
    x_UnknownName := xm_UnknownName c (He.free_ok X G (c.d.fact 13 (f := .free "super") rfl)) (He.glo_ok X G (c.d.fact 38 (f := .glo "UnknownName") rfl)),
    x_UnknownLabel := xm_UnknownLabel c (He.free_ok X G (c.d.fact 13 (f := .free "super") rfl)) (He.glo_ok X G (c.d.fact 37 (f := .glo "UnknownLabel") rfl)),
    x_NothingLeft := xm_NothingLeft c (He.free_ok X G (c.d.fact 13 (f := .free "super") rfl)) (He.glo_ok X G (c.d.fact 32 (f := .glo "NothingLeft") rfl)) }
theorem fs_of {K : Frag} {mg : Str → Option Value} {h : Heap} (X : K.In h) (G : h.Ns mainGlobals mg) (c : SaysR file fas fns xds subs K) : Fs K mg where
  d__law_feed := c.d.def_ 0 (d := dd__law_feed) rfl
  m__law_feed := He.glo_ok X G (c.d.fact 39 (f := .glo "_law_feed") rfl)
  d__law_draw := c.d.def_ 1 (d := dd__law_draw) rfl
  m__law_draw := He.glo_ok X G (c.d.fact 40 (f := .glo "_law_draw") rfl)
  d__law_any := c.d.def_ 2 (d := dd__law_any) rfl
  m__law_any := He.glo_ok X G (c.d.fact 41 (f := .glo "_law_any") rfl)
  d__law_same := c.d.def_ 3 (d := dd__law_same) rfl
  m__law_same := He.glo_ok X G (c.d.fact 42 (f := .glo "_law_same") rfl)
  d__law_made_errors := c.d.def_ 4 (d := dd__law_made_errors) rfl
  m__law_made_errors := He.glo_ok X G (c.d.fact 43 (f := .glo "_law_made_errors") rfl)
  d__law_flags := c.d.def_ 5 (d := dd__law_flags) rfl
  m__law_flags := He.glo_ok X G (c.d.fact 44 (f := .glo "_law_flags") rfl)
  d__law_value_of := c.d.def_ 6 (d := dd__law_value_of) rfl
  m__law_value_of := He.glo_ok X G (c.d.fact 45 (f := .glo "_law_value_of") rfl)
  d_law := c.d.def_ 7 (d := dd_law) rfl
  m_law := He.glo_ok X G (c.d.fact 46 (f := .glo "law") rfl)
/-- the plain law -/
def Plain : Prop := ∀ ns : List Int, ns.length ≤ 63 → ∃ S1, evC B 8 7 [.scr (ns.map D.int)] [] = some (.bl true, S1)
theorem law_sp {K : Frag} {H : Hp} {a : Addr} {ns : List Int} (pl : Plain) (hl : ns.length ≤ 63) (hS : SqL K H a (ns.map V.int)) : spF (Mn K) B (evC B 8) 7 [.ref a] H (fun v _ => v = .bl true) fun _ _ _ => False := by
  obtain ⟨S1, e⟩ := pl ns hl
  refine ⟨rfl, fun _ => none, [], [.scr (ns.map D.int)], .bl true, S1, ⟨rfl, fun _ => trivial, fun a t h => (by cases h), ⟨fun n c h => (by simp at h), fun a b n h => (by cases h), fun a n h => (by cases h)⟩⟩, fun a i h => (by cases h), .cons (scr_rep rfl hS) .nil, e, fun v T' H' _ _ r => ?_⟩
  cases r
  rfl
end LW
open PySem PySem.W PySem.Calls PyProof.Rows
theorem holds_of (pl : LW.Plain) : PySem.Challenge.rw_tiespan_k59_refusals_by_their_classes.Holds := by
  w_on; o_law
  refine HandSHeadRun.head_any (r := LW.R) (q := view LW.R.prog [32]) (H := LW.hk) (ob := LW.ob) (M := 40000) (loose := LW.nms) (d := HandSHeadRun.topDef LW.R.prog 32) (kwd := []) LW.ob_eq
    (by kernel_rfl) (fun s => by kernel_rfl) LW.run (by kernel_rfl) (by kernel_rfl) (by kernel_rfl) (by rfl) (by first | assumption | decide +kernel) (by decide +kernel) ⟨rfl, rfl, rfl, rfl, rfl, by decide +kernel⟩ ?hw ?hc
  case hw => w_witness2
  case hc =>
    refine L2.walk_ofE (l := LW.row) (n := 63) (k := 18) (x := "_law_script") (CX := L2.CX0) rfl (by decide) (by kernel_rfl) ⟨rfl, by decide, by decide⟩ ?F (fun _ _ _ _ z => z)
    intro w mg fa h Y G hmg0
    obtain ⟨K, KX, c⟩ := Y
    have hmg : mg ("law" : PySem.Str) = some (.ref fa) := by
      have e : (HandSHeadRun.topDef LW.R.prog 32).name = ("law" : PySem.Str) := by kernel_rfl
      rw [← e]
      exact hmg0
    have Fq := LW.fs_of KX G c
    have e := hmg.symm.trans Fq.m_law
    cases e
    obtain ⟨fd, Fl⟩ := Fq.d_law
    have b := L2.FunD.bindsA (ps := ["_law_script"]) Fl fun _ _ _ _ _ _ us hl => match us, hl with | [_], _ => rfl
    exact ⟨K, fd, RI.spF (LW.Mn K) LW.B (RI.evC LW.B 8) 7, KX, fun s v => b s [v] rfl, fun H a ns hl _ hS => LW.law_sp pl hl hS, fun base KB GB => LW.ok_law (LW.all_ok (LW.gx_of KB GB c) (LW.fs_of KB GB c) 7) Fl⟩
end

section
namespace RI
open PySem PySem.Spec L2
def bFeed : List SS := [(.asg 1 (.lc (List.map (fun p : Str × Nat => p.2) [("_law_cell", 3)]) (.bi 8 [(.var 3)]) (.nm 3) .seq [(.slc (.var 0) .cnon (.cint 63))] (.cbl true))),
  (.asg 2 (.bin .add (.cint 3834) (.bin .mul (.cint 53) (.bi 0 [(.var 1)])))),
  (.for_ none (.nm 3) .seq [(.var 1)] [(.asg 2 (.bin .mod (.bi 8 [(.bin .add (.bin .mul (.var 2) (.cint 8117)) (.var 3))]) (.cint 2147483629)))]),
  (.ret (.newc [(.var 1), (.cint 0), (.cint 0), (.var 2)]))]
def bDraw : List SS := [(.if_ (.cmp .lt (.idx (.var 0) (.cint 2)) (.cint 2)) [(.putR (.var 0) (.cint 1) (.bin .add (.idx (.var 0) (.cint 1)) (.cint 1))),
  (.asg 2 (.bin .add (.idx (.var 0) (.cint 3)) (.bin .mul (.idx (.var 0) (.cint 1)) (.cint 7919)))),
  (.if_ (.cmp .le (.idx (.var 0) (.cint 1)) (.bi 0 [(.idx (.var 0) (.cint 0))])) [(.asg 2 (.idx (.idx (.var 0) (.cint 0)) (.bin .sub (.idx (.var 0) (.cint 1)) (.cint 1))))] []),
  (.if_ (.or_ (.cmp .gt (.idx (.var 0) (.cint 1)) (.bi 0 [(.idx (.var 0) (.cint 0))])) (.cmp .lt (.var 2) (.cint ((10 : Int) ^ (18 : Int).toNat)))) [(.asg 3 (.bin .mod (.bi 8 [(.bin .add (.bin .add (.bin .mul (.var 2) (.cint 48271)) (.bin .mul (.idx (.var 0) (.cint 1)) (.cint 69621))) (.idx (.var 0) (.cint 3)))]) (.cint 2147483647))),
  (.asg 4 (.bin .mod (.bi 8 [(.bin .add (.bin .mul (.var 3) (.var 3)) (.bin .mul (.idx (.var 0) (.cint 1)) (.cint 16807)))]) (.cint 998244353))),
  (.ret (.bin .mod (.bin .fdiv (.bin .mod (.bi 8 [(.bin .add (.bin .mul (.var 4) (.cint 40692)) (.var 3))]) (.cint 2147483629)) (.cint 11)) (.var 1)))] []),
  (.putR (.var 0) (.cint 2) (.var 2))] []),
  (.asg 5 (.bin .mod (.bi 8 [(.idx (.var 0) (.cint 2))]) (.var 1))),
  (.putR (.var 0) (.cint 2) (.bin .fdiv (.bi 8 [(.idx (.var 0) (.cint 2))]) (.var 1))),
  (.ret (.var 5))]
/-- the feed's cell -/
def FS (ns : List Int) (i c m : Int) : Store := [.lst [.lst (ns.map D.int), .int i, .int c, .int m]]
theorem mulOk_r {a b : Int} (h : b.natAbs < 2 ^ 64) : mulOk a b = true := by unfold mulOk; simp [h]
section
variable {B : Tb} {φ : Phi} {env : List Slot} {S : Store} {ns : List Int} {i c m k a b : Int}
theorem mul_r (h : b.natAbs < 2 ^ 64) : evBin .mul (.int a) (.int b) = some (.int (a * b)) := by
  show (fMul a b).map D.int = _
  unfold fMul
  rw [mulOk_r h]
  rfl
theorem mod_p (h : 0 < b) : evBin .mod (.int a) (.int b) = some (.int (a % b)) := by
  show (fMod a b).map D.int = _
  unfold fMod
  rw [if_pos h]
  rfl
theorem div_p (h : b ≠ 0) (h2 : b.natAbs.log2 < 9000) : evBin .fdiv (.int a) (.int b) = some (.int (a.fdiv b)) := by
  show (fDiv a b).map D.int = _
  unfold fDiv divOk
  rw [decide_eq_true h, decide_eq_true h2]
  rfl
theorem add_i : evBin .add (.int a) (.int b) = some (.int (a + b)) := rfl
theorem sub_i : evBin .sub (.int a) (.int b) = some (.int (a - b)) := rfl
/-- the fields of the feed -/
theorem fs_at1 (h : env[0]? = some (.frz (.ref 0))) : evE B φ (.idx (.var 0) (.cint 1)) env (FS ns i c m) = some (.int i, FS ns i c m) := by simp [evE, h, bnd, idxD, FS, lift, atI, ixN]
theorem fs_at2 (h : env[0]? = some (.frz (.ref 0))) : evE B φ (.idx (.var 0) (.cint 2)) env (FS ns i c m) = some (.int c, FS ns i c m) := by simp [evE, h, bnd, idxD, FS, lift, atI, ixN]
theorem fs_at3 (h : env[0]? = some (.frz (.ref 0))) : evE B φ (.idx (.var 0) (.cint 3)) env (FS ns i c m) = some (.int m, FS ns i c m) := by simp [evE, h, bnd, idxD, FS, lift, atI, ixN]
theorem fs_at0 (h : env[0]? = some (.frz (.ref 0))) : evE B φ (.idx (.var 0) (.cint 0)) env (FS ns i c m) = some (.lst (ns.map D.int), FS ns i c m) := by simp [evE, h, bnd, idxD, FS, lift, atI, ixN]
theorem fs_len (h : env[0]? = some (.frz (.ref 0))) : evE B φ (.bi 0 [.idx (.var 0) (.cint 0)]) env (FS ns i c m) = some (.int ns.length, FS ns i c m) := by
  simp only [evE, evEs]
  simp [h, bnd, idxD, FS, lift, atI, ixN, evBi, evLen]
theorem put1 {e : SE} {x : Int} (h : env[0]? = some (.frz (.ref 0))) (he : evE B φ e env S = some (.int x, FS ns i c m)) : evS B φ (.putR (.var 0) (.cint 1) e) env S = .next env (FS ns x c m) := by
  simp only [evS, he, bndS]
  simp [evE, h, FS, ixN]
theorem put2 {e : SE} {x : Int} (h : env[0]? = some (.frz (.ref 0))) (he : evE B φ e env S = some (.int x, FS ns i c m)) : evS B φ (.putR (.var 0) (.cint 2) e) env S = .next env (FS ns i x m) := by
  simp only [evS, he, bndS]
  simp [evE, h, FS, ixN]
theorem int_of {e : SE} {x : Int} {S1 : Store} (he : evE B φ e env S = some (.int x, S1)) : evE B φ (.bi 8 [e]) env S = some (.int x, S1) := by
  simp only [evE, evEs, he, bnd]
  rfl
theorem bin_of {e e' : SE} {x y z : Int} {o : BOp} {S1 S2 : Store} (he : evE B φ e env S = some (.int x, S1)) (he' : evE B φ e' env S1 = some (.int y, S2)) (h : evBin o (.int x) (.int y) = some (.int z)) : evE B φ (.bin o e e') env S = some (.int z, S2) := by
  simp only [evE, he, he', bnd, binD, h, lift]
  rfl
theorem var_of {j : Nat} {d : D} (h : env[j]? = some (.frz d)) : evE B φ (.var j) env S = some (d, S) := by simp only [evE, h]
theorem cint_of {x : Int} : evE B φ (.cint x) env S = some (.int x, S) := by simp only [evE]
theorem cmp_lt {e e' : SE} {x y : Int} {S1 S2 : Store} (he : evE B φ e env S = some (.int x, S1)) (he' : evE B φ e' env S1 = some (.int y, S2)) : evE B φ (.cmp .lt e e') env S = some (.bl (decide (x < y)), S2) := by
  simp only [evE, he, he', bnd]
  rfl
theorem cmp_le {e e' : SE} {x y : Int} {S1 S2 : Store} (he : evE B φ e env S = some (.int x, S1)) (he' : evE B φ e' env S1 = some (.int y, S2)) : evE B φ (.cmp .le e e') env S = some (.bl (decide (x ≤ y)), S2) := by
  simp only [evE, he, he', bnd]
  rfl
theorem cmp_gt {e e' : SE} {x y : Int} {S1 S2 : Store} (he : evE B φ e env S = some (.int x, S1)) (he' : evE B φ e' env S1 = some (.int y, S2)) : evE B φ (.cmp .gt e e') env S = some (.bl (decide (y < x)), S2) := by
  simp only [evE, he, he', bnd]
  rfl
theorem asg_of {e : SE} {d : D} {j : Nat} {S1 : Store} (he : evE B φ e env S = some (d, S1)) : evS B φ (.asg j e) env S = .next (env.set j (.frz d)) S1 := by simp only [evS, he, bndS]
theorem seq_of {s : SS} {r : List SS} {env1 : List Slot} {S1 : Store} (h : evS B φ s env S = .next env1 S1) : evSs B φ (s :: r) env S = evSs B φ r env1 S1 := by simp only [evSs, h, thnS]
theorem ret_of {e : SE} {r : List SS} {d : D} {S1 : Store} (he : evE B φ e env S = some (d, S1)) : evSs B φ (.ret e :: r) env S = .ret d env S1 := by simp only [evSs, evS, he, bndS, thnS]
theorem if_of {e : SE} {p q : List SS} {b' : Bool} {S1 : Store} (he : evE B φ e env S = some (.bl b', S1)) : evS B φ (.if_ e p q) env S = if b' then evSs B φ p env S1 else evSs B φ q env S1 := by simp only [evS, he, bndC]
theorem or_of {e e' : SE} {x y : Bool} {S1 : Store} (he : evE B φ e env S = some (.bl x, S1)) (he' : evE B φ e' env S1 = some (.bl y, S1)) : evE B φ (.or_ e e') env S = some (.bl (x || y), S1) := by
  simp only [evE, he, bndB]
  cases x <;> simp [he']
theorem draw_tail {s2 s3 s4 s5 : Slot} (hk : 0 < k) (hk2 : k.natAbs.log2 < 9000) : ∃ env', evSs B φ [(.asg 5 (.bin .mod (.bi 8 [(.idx (.var 0) (.cint 2))]) (.var 1))), (.putR (.var 0) (.cint 2) (.bin .fdiv (.bi 8 [(.idx (.var 0) (.cint 2))]) (.var 1))), (.ret (.var 5))] [.frz (.ref 0), .frz (.int k), s2, s3, s4, s5] (FS ns i c m) =
    .ret (.int (c % k)) env' (FS ns i (c.fdiv k) m) := by
  refine ⟨[.frz (.ref 0), .frz (.int k), s2, s3, s4, .frz (.int (c % k))], ?_⟩
  rw [seq_of (asg_of (bin_of (int_of (fs_at2 rfl)) (var_of rfl) (mod_p hk)))]
  rw [seq_of (put2 rfl (bin_of (int_of (fs_at2 rfl)) (var_of rfl) (div_p (by omega) hk2)))]
  exact ret_of (var_of rfl)
theorem draw_ok (hi : 0 ≤ i) (hk : 0 < k) (hk2 : k.natAbs.log2 < 9000) : ∃ r i' c' env', 0 ≤ r ∧ r < k ∧ 0 ≤ i' ∧ evSs B φ bDraw [.frz (.ref 0), .frz (.int k), .emp, .emp, .emp, .emp] (FS ns i c m) = .ret (.int r) env' (FS ns i' c' m) := by
  have fin : ∀ {env : List Slot} {i c : Int}, 0 ≤ i → (∃ s2 s3 s4 s5, env = [.frz (.ref 0), .frz (.int k), s2, s3, s4, s5]) → ∃ r i' c' env', 0 ≤ r ∧ r < k ∧ 0 ≤ i' ∧ evSs B φ [(.asg 5 (.bin .mod (.bi 8 [(.idx (.var 0) (.cint 2))]) (.var 1))), (.putR (.var 0) (.cint 2) (.bin .fdiv (.bi 8 [(.idx (.var 0) (.cint 2))]) (.var 1))), (.ret (.var 5))] env (FS ns i c m) = .ret (.int r) env' (FS ns i' c' m) := by
    rintro env i c hi ⟨s2, s3, s4, s5, rfl⟩
    obtain ⟨env', e⟩ := draw_tail (B := B) (φ := φ) (ns := ns) (i := i) (c := c) (m := m) (s2 := s2) (s3 := s3) (s4 := s4) (s5 := s5) hk hk2
    exact ⟨_, _, _, env', Int.emod_nonneg _ (by omega), Int.emod_lt_of_pos _ hk, hi, e⟩
  unfold bDraw
  by_cases h2 : c < 2
  · have e1 : evE B φ (.cmp .lt (.idx (.var 0) (.cint 2)) (.cint 2)) [.frz (.ref 0), .frz (.int k), .emp, .emp, .emp, .emp] (FS ns i c m) = some (.bl true, FS ns i c m) := by
      rw [cmp_lt (fs_at2 rfl) cint_of, decide_eq_true h2]
    -- the cell's number
    have key : ∃ w : Int, ∀ r : List SS, evSs B φ ((.putR (.var 0) (.cint 1) (.bin .add (.idx (.var 0) (.cint 1)) (.cint 1))) :: (.asg 2 (.bin .add (.idx (.var 0) (.cint 3)) (.bin .mul (.idx (.var 0) (.cint 1)) (.cint 7919)))) ::
        (.if_ (.cmp .le (.idx (.var 0) (.cint 1)) (.bi 0 [(.idx (.var 0) (.cint 0))])) [(.asg 2 (.idx (.idx (.var 0) (.cint 0)) (.bin .sub (.idx (.var 0) (.cint 1)) (.cint 1))))] []) :: r) [.frz (.ref 0), .frz (.int k), .emp, .emp, .emp, .emp] (FS ns i c m) =
        evSs B φ r [.frz (.ref 0), .frz (.int k), .frz (.int w), .emp, .emp, .emp] (FS ns (i + 1) c m) := by
      by_cases hl : i + 1 ≤ ns.length
      · obtain ⟨w, hw⟩ : ∃ w, ns[i.toNat]? = some w := ⟨_, List.getElem?_eq_getElem (by omega)⟩
        refine ⟨w, fun r => ?_⟩
        rw [seq_of (put1 rfl (bin_of (fs_at1 rfl) cint_of add_i))]
        rw [seq_of (asg_of (bin_of (fs_at3 rfl) (bin_of (fs_at1 rfl) cint_of (mul_r (by decide))) add_i))]
        have q : evE B φ (.idx (.idx (.var 0) (.cint 0)) (.bin .sub (.idx (.var 0) (.cint 1)) (.cint 1))) [.frz (.ref 0), .frz (.int k), .frz (.int (m + (i + 1) * 7919)), .emp, .emp, .emp] (FS ns (i + 1) c m) = some (.int w, FS ns (i + 1) c m) := by
          rw [evE, fs_at0 rfl]
          simp only [bnd]
          rw [bin_of (fs_at1 rfl) cint_of sub_i]
          have : (i + 1 - 1 : Int) = i := by omega
          rw [this]
          have z : atI (ns.map D.int) i = some (.int w) := by
            unfold atI ixN
            rw [if_pos hi, if_pos (by simp; omega)]
            simp [hw]
          simp only [idxD, evIdx, z, lift]
          rfl
        rw [seq_of (env1 := [.frz (.ref 0), .frz (.int k), .frz (.int w), .emp, .emp, .emp]) (S1 := FS ns (i + 1) c m) (by
          rw [if_of (cmp_le (fs_at1 rfl) (fs_len rfl)), decide_eq_true hl, if_pos rfl]
          refine (seq_of (asg_of q)).trans ?_
          simp only [evSs]
          rfl)]
      · refine ⟨m + (i + 1) * 7919, fun r => ?_⟩
        rw [seq_of (put1 rfl (bin_of (fs_at1 rfl) cint_of add_i))]
        rw [seq_of (asg_of (bin_of (fs_at3 rfl) (bin_of (fs_at1 rfl) cint_of (mul_r (by decide))) add_i))]
        rw [seq_of (env1 := [.frz (.ref 0), .frz (.int k), .frz (.int (m + (i + 1) * 7919)), .emp, .emp, .emp]) (S1 := FS ns (i + 1) c m) (by
          rw [if_of (cmp_le (fs_at1 rfl) (fs_len rfl)), decide_eq_false hl, if_neg Bool.false_ne_true]
          simp only [evSs]
          rfl)]
    obtain ⟨w, key⟩ := key
    have or1 : evE B φ (.or_ (.cmp .gt (.idx (.var 0) (.cint 1)) (.bi 0 [(.idx (.var 0) (.cint 0))])) (.cmp .lt (.var 2) (.cint ((10 : Int) ^ (18 : Int).toNat)))) [.frz (.ref 0), .frz (.int k), .frz (.int w), .emp, .emp, .emp] (FS ns (i + 1) c m) =
        some (.bl (decide ((ns.length : Int) < i + 1) || decide (w < (10 : Int) ^ (18 : Int).toNat)), FS ns (i + 1) c m) := or_of (cmp_gt (fs_at1 rfl) (fs_len rfl)) (cmp_lt (var_of rfl) cint_of)
    cases hb : (decide ((ns.length : Int) < i + 1) || decide (w < (10 : Int) ^ (18 : Int).toNat)) with
    | true =>
      rw [hb] at or1
      generalize ho : w * 48271 + (i + 1) * 69621 + m = one0
      have o0 : 0 ≤ one0 % 2147483647 := Int.emod_nonneg _ (by decide)
      have o1 : one0 % 2147483647 < 2147483647 := Int.emod_lt_of_pos _ (by decide)
      refine ⟨((((one0 % 2147483647) * (one0 % 2147483647) + (i + 1) * 16807) % 998244353 * 40692 + one0 % 2147483647) % 2147483629).fdiv 11 % k, i + 1, c, [.frz (.ref 0), .frz (.int k), .frz (.int w), .frz (.int (one0 % 2147483647)), .frz (.int (((one0 % 2147483647) * (one0 % 2147483647) + (i + 1) * 16807) % 998244353)), .emp], Int.emod_nonneg _ (by omega), Int.emod_lt_of_pos _ hk, by omega, ?_⟩
      rw [evSs, if_of e1, if_pos rfl, key, evSs, if_of or1, if_pos rfl]
      rw [seq_of (asg_of (bin_of (int_of (bin_of (bin_of (bin_of (var_of rfl) cint_of (mul_r (by decide))) (bin_of (fs_at1 rfl) cint_of (mul_r (by decide))) add_i) (fs_at3 rfl) add_i)) cint_of (mod_p (by decide))))]
      rw [ho]
      rw [seq_of (asg_of (bin_of (int_of (bin_of (bin_of (var_of rfl) (var_of rfl) (mul_r (by omega))) (bin_of (fs_at1 rfl) cint_of (mul_r (by decide))) add_i)) cint_of (mod_p (by decide))))]
      rw [ret_of (bin_of (bin_of (bin_of (int_of (bin_of (bin_of (var_of rfl) cint_of (mul_r (by decide))) (var_of rfl) add_i)) cint_of (mod_p (by decide))) cint_of (div_p (by decide) (by decide +kernel))) (var_of rfl) (mod_p hk))]
      simp only [thnS]
      rfl
    | false =>
      rw [hb] at or1
      have st : evS B φ (.if_ (.cmp .lt (.idx (.var 0) (.cint 2)) (.cint 2)) [(.putR (.var 0) (.cint 1) (.bin .add (.idx (.var 0) (.cint 1)) (.cint 1))),
  (.asg 2 (.bin .add (.idx (.var 0) (.cint 3)) (.bin .mul (.idx (.var 0) (.cint 1)) (.cint 7919)))),
  (.if_ (.cmp .le (.idx (.var 0) (.cint 1)) (.bi 0 [(.idx (.var 0) (.cint 0))])) [(.asg 2 (.idx (.idx (.var 0) (.cint 0)) (.bin .sub (.idx (.var 0) (.cint 1)) (.cint 1))))] []),
  (.if_ (.or_ (.cmp .gt (.idx (.var 0) (.cint 1)) (.bi 0 [(.idx (.var 0) (.cint 0))])) (.cmp .lt (.var 2) (.cint ((10 : Int) ^ (18 : Int).toNat)))) [(.asg 3 (.bin .mod (.bi 8 [(.bin .add (.bin .add (.bin .mul (.var 2) (.cint 48271)) (.bin .mul (.idx (.var 0) (.cint 1)) (.cint 69621))) (.idx (.var 0) (.cint 3)))]) (.cint 2147483647))),
  (.asg 4 (.bin .mod (.bi 8 [(.bin .add (.bin .mul (.var 3) (.var 3)) (.bin .mul (.idx (.var 0) (.cint 1)) (.cint 16807)))]) (.cint 998244353))),
  (.ret (.bin .mod (.bin .fdiv (.bin .mod (.bi 8 [(.bin .add (.bin .mul (.var 4) (.cint 40692)) (.var 3))]) (.cint 2147483629)) (.cint 11)) (.var 1)))] []),
  (.putR (.var 0) (.cint 2) (.var 2))] []) [.frz (.ref 0), .frz (.int k), .emp, .emp, .emp, .emp] (FS ns i c m) = .next [.frz (.ref 0), .frz (.int k), .frz (.int w), .emp, .emp, .emp] (FS ns (i + 1) w m) := by
        rw [if_of e1, if_pos rfl, key]
        rw [seq_of (env1 := [.frz (.ref 0), .frz (.int k), .frz (.int w), .emp, .emp, .emp]) (S1 := FS ns (i + 1) c m) (by
          rw [if_of or1, if_neg Bool.false_ne_true]
          simp only [evSs])]
        rw [seq_of (put2 rfl (var_of rfl))]
        simp only [evSs]
      rw [seq_of st]
      exact fin (by omega) ⟨_, _, _, _, rfl⟩
  · have e1 : evE B φ (.cmp .lt (.idx (.var 0) (.cint 2)) (.cint 2)) [.frz (.ref 0), .frz (.int k), .emp, .emp, .emp, .emp] (FS ns i c m) = some (.bl false, FS ns i c m) := by
      rw [cmp_lt (fs_at2 rfl) cint_of, decide_eq_false h2]
    rw [seq_of (env1 := [.frz (.ref 0), .frz (.int k), .emp, .emp, .emp, .emp]) (S1 := FS ns i c m) (by
      rw [if_of e1, if_neg Bool.false_ne_true]
      simp only [evSs])]
    exact fin hi ⟨_, _, _, _, rfl⟩
end
end RI
end

section
namespace RI
open PySem PySem.Spec L2
section
variable {B : Tb} {φ : Phi} {env : List Slot} {S : Store} {ns : List Int} {i c m k a b : Int}
theorem loop_ints {g : D → Store → Rs (Option D)} (h : ∀ i : Int, g (.int i) S = some (some (.int i), S)) : ∀ l : List Int, loopL g (l.map D.int) S = some (l.map D.int, S)
  | [] => rfl
  | x :: r => by
    simp only [List.map_cons, loopL, h, bnd, loop_ints h r]
theorem cut_all {α : Type} {xs : List α} (h : xs.length ≤ 63) : cut xs none (some 63) = xs := by
  unfold cut
  rw [HT.sIx_none, show (some 63 : Option Int) = some ((63 : Nat) : Int) from rfl, HT.sIx_nat, List.drop_zero]
  exact List.take_of_length_le (by omega)
theorem mark_loop {s0 s1 : Slot} : ∀ (l : List Int) (m : Int) (s3 : Slot), ∃ (m' : Int) (s3' : Slot), forL (fun d env1 S2 => match bndT (.nm 3) d env1 with | some env2 => evSs B φ [(.asg 2 (.bin .mod (.bi 8 [(.bin .add (.bin .mul (.var 2) (.cint 8117)) (.var 3))]) (.cint 2147483629)))] env2 S2 | none => .bad) (l.map D.int) [s0, s1, .frz (.int m), s3] S = .next [s0, s1, .frz (.int m'), s3'] S
  | [], m, s3 => ⟨m, s3, by simp only [List.map_nil, forL]⟩
  | x :: r, m, s3 => by
    obtain ⟨m', s3', e⟩ := mark_loop r ((m * 8117 + x) % 2147483629) (.frz (.int x))
    refine ⟨m', s3', ?_⟩
    simp only [List.map_cons, forL, bndT]
    rw [seq_of (asg_of (bin_of (int_of (bin_of (bin_of (var_of rfl) cint_of (mul_r (by decide))) (var_of rfl) add_i)) cint_of (mod_p (by decide))))]
    simp only [evSs]
    exact e
theorem feed_ok (hl : ns.length ≤ 63) : ∃ (m : Int) (env' : List Slot), evSs B φ bFeed [.frz (.scr (ns.map D.int)), .emp, .emp, .emp] [] = .ret (.ref 0) env' (FS ns 0 0 m) := by
  have hl' : (ns.map D.int).length ≤ 63 := by simpa using hl
  have h63 : (63 : Nat) ≤ sizeLine := by simp [sizeLine_eq]
  have e1 : evE B φ (.lc (List.map (fun p : Str × Nat => p.2) [("_law_cell", 3)]) (.bi 8 [(.var 3)]) (.nm 3) .seq [(.slc (.var 0) .cnon (.cint 63))] (.cbl true)) [.frz (.scr (ns.map D.int)), .emp, .emp, .emp] [] = some (.lst (ns.map D.int), []) := by
    rw [evE]
    have it : evEs B φ [(.slc (.var 0) .cnon (.cint 63))] [.frz (.scr (ns.map D.int)), .emp, .emp, .emp] [] = some ([.lst (ns.map D.int)], []) := by
      simp [evEs, evE, bnd, intO, evSlc, lift, cut_all hl']
    rw [it]
    simp only [bnd, itD]
    rw [if_pos (Nat.le_trans hl' h63)]
    rw [loop_ints (S := []) (fun i => by simp [bndT, wipeE, evE, evEs, bndB, bnd, evBi, evInt, lift]) ns]
  have e2 : evE B φ (.bi 0 [(.var 1)]) [.frz (.scr (ns.map D.int)), .frz (.lst (ns.map D.int)), .emp, .emp] [] = some (.int ns.length, []) := by
    simp [evE, evEs, bnd, evBi, evLen, lift]
  unfold bFeed
  rw [seq_of (asg_of e1)]
  simp only [List.set_cons_succ, List.set_cons_zero]
  rw [seq_of (asg_of (bin_of cint_of (bin_of cint_of e2 (mul_r (by omega))) add_i))]
  obtain ⟨m', s3', e3⟩ := mark_loop (B := B) (φ := φ) (S := []) (s0 := .frz (.scr (ns.map D.int))) (s1 := .frz (.lst (ns.map D.int))) ns (3834 + 53 * ns.length) .emp
  have e4 : evS B φ (.for_ none (.nm 3) .seq [(.var 1)] [(.asg 2 (.bin .mod (.bi 8 [(.bin .add (.bin .mul (.var 2) (.cint 8117)) (.var 3))]) (.cint 2147483629)))]) [.frz (.scr (ns.map D.int)), .frz (.lst (ns.map D.int)), .frz (.int (3834 + 53 * ns.length)), .emp] [] = .next [.frz (.scr (ns.map D.int)), .frz (.lst (ns.map D.int)), .frz (.int m'), s3'] [] := by
    rw [evS]
    simp only [evEs, evE, List.getElem?_cons_succ, List.getElem?_cons_zero, bnd, bndL, itD]
    exact e3
  refine ⟨m', [.frz (.scr (ns.map D.int)), .frz (.lst (ns.map D.int)), .frz (.int m'), s3'], ?_⟩
  refine (seq_of e4).trans ?_
  refine ret_of ?_
  simp [evE, evEs, bnd, FS, sizeLine_eq]
end
end RI
end

section
namespace LW
open PySem PySem.Spec L2 RI
def madeL (num : Int) (w : Str) : List D := [.exc 2 [(0, .str "InvalidRatio"), (1, .int num)], .exc 3 [(0, .str "InvalidRow"), (2, .int num)], .exc 4 [(0, .str "InvalidName"), (3, .str w)], .exc 5 [(0, .str "InvalidTie"), (2, .int num)], .exc 6 [(0, .str "InvalidWish"), (2, .int num)], .exc 7 [(0, .str "InvalidTimes"), (1, .int num)], .exc 8 [(0, .str "InvalidLimit"), (1, .int num)], .exc 9 [(0, .str "InvalidCommand"), (4, .str w)], .exc 10 [(0, .str "NotTied"), (5, .int num)], .exc 11 [(0, .str "SameName"), (3, .str w)], .exc 12 [(0, .str "NamesDiffer")], .exc 13 [(0, .str "EmptyFigure")], .exc 14 [(0, .str "Impossible")], .exc 15 [(0, .str "Possible"), (6, .str w)], .exc 16 [(0, .str "NotImplied"), (6, .str w)], .exc 17 [(0, .str "ParseError"), (2, .int num)], .exc 18 [(0, .str "DuplicateLabel"), (7, .str w)], .exc 19 [(0, .str "CapacityExceeded"), (8, .int num)], .exc 20 [(0, .str "UnknownName"), (3, .str w)], .exc 21 [(0, .str "UnknownLabel"), (7, .str w)], .exc 22 [(0, .str "NothingLeft")]]
def tagsL : List D := [.str "InvalidRatio", .str "InvalidRow", .str "InvalidName", .str "InvalidTie", .str "InvalidWish", .str "InvalidTimes", .str "InvalidLimit", .str "InvalidCommand", .str "NotTied", .str "SameName", .str "NamesDiffer", .str "EmptyFigure", .str "Impossible", .str "Possible", .str "NotImplied", .str "ParseError", .str "DuplicateLabel", .str "CapacityExceeded", .str "UnknownName", .str "UnknownLabel", .str "NothingLeft"]
def dueL (num : Int) (w : Str) : List D := [.int num, .int num, .str w, .int num, .int num, .int num, .int num, .str w, .int num, .str w, .non, .non, .non, .str w, .str w, .int num, .str w, .int num, .str w, .str w, .non]
def fb (f : Nat) : List SS := match fT f with | some fn => fn.body | none => []
section
variable {n : Nat} {S S1 : Store} {ns : List Int} {i c m num k st : Int} {w : Str} {env : List Slot} {d : D} {ds : List D} {f : Nat} {fn : Fn}
theorem call_of (hf : fT f = some fn) (hc : fn.cls = none) (hl : ds.length = fn.ps) (h : ∃ env', evSs B (evC B n) fn.body (startE fn.n ds) S = .ret d env' S1) : evC B (n + 1) f ds S = some (d, S1) := by
  obtain ⟨env', h⟩ := h
  have e : evC B (n + 1) f ds S = runF B (evC B n) fn ds S := by
    rw [evC]
    show (match fT f with | some fn => runF B (evC B n) fn ds S | none => none) = _
    rw [hf]
  rw [e]
  unfold runF
  rw [if_pos hl, hc]
  dsimp only
  rw [h]
theorem feed_c (hl : ns.length ≤ 63) : ∃ m, evC B (n + 1) 0 [.scr (ns.map D.int)] [] = some (.ref 0, FS ns 0 0 m) := by
  obtain ⟨m, env', e⟩ := feed_ok (B := B) (φ := evC B n) hl
  exact ⟨m, call_of (fn := ⟨4, 1, none, b__law_feed⟩) rfl rfl rfl ⟨env', e⟩⟩
theorem draw_c (hi : 0 ≤ i) (hk : 0 < k) (hk2 : k.natAbs.log2 < 9000) : ∃ r i' c', 0 ≤ r ∧ r < k ∧ 0 ≤ i' ∧ evC B (n + 1) 1 [.ref 0, .int k] (FS ns i c m) = some (.int r, FS ns i' c' m) := by
  obtain ⟨r, i', c', env', h1, h2, h3, e⟩ := draw_ok (B := B) (φ := evC B n) (ns := ns) (c := c) (m := m) hi hk hk2
  exact ⟨r, i', c', h1, h2, h3, call_of (fn := ⟨6, 2, none, b__law_draw⟩) rfl rfl rfl ⟨env', e⟩⟩
theorem any_c (hi : 0 ≤ i) : ∃ w i' c', shp (.str w) = true ∧ 0 ≤ i' ∧ evC B (n + 2) 2 [.ref 0, .lst [.str "b", .str "oak", .str "elm"]] (FS ns i c m) = some (.str w, FS ns i' c' m) := by
  obtain ⟨r, i', c', h1, h2, h3, e⟩ := draw_c (n := n) (ns := ns) (c := c) (m := m) (k := 3) hi (by decide) (by decide +kernel)
  have hw : ∃ w, atI [D.str "b", .str "oak", .str "elm"] r = some (.str w) ∧ shp (.str w) = true := by
    have : r = 0 ∨ r = 1 ∨ r = 2 := by omega
    rcases this with rfl | rfl | rfl
    · exact ⟨"b", rfl, by kernel_rfl⟩
    · exact ⟨"oak", rfl, by kernel_rfl⟩
    · exact ⟨"elm", rfl, by kernel_rfl⟩
  obtain ⟨w, hw, hsh⟩ := hw
  refine ⟨w, i', c', hsh, h3, call_of (fn := ⟨2, 2, none, b__law_any⟩) rfl rfl rfl ⟨_, ret_of (r := []) ?_⟩⟩
  have e3 : evEs B (evC B (n + 1)) [(.var 0), (.bi 0 [(.var 1)])] [.frz (.ref 0), .frz (.lst [.str "b", .str "oak", .str "elm"])] (FS ns i c m) = some ([.ref 0, .int 3], FS ns i c m) := by kernel_rfl
  show evE B (evC B (n + 1)) (.idx (.var 1) (.call 1 [(.var 0), (.bi 0 [(.var 1)])])) [.frz (.ref 0), .frz (.lst [.str "b", .str "oak", .str "elm"])] (FS ns i c m) = _
  rw [evE, var_of rfl]
  simp only [bnd]
  rw [evE, e3]
  simp only [bnd]
  rw [e]
  simp only [idxD, evIdx, hw, lift]
  rfl
theorem and_of {e e' : SE} {φ : Phi} {y : D} (he : evE B φ e env S = some (.bl true, S)) (he' : evE B φ e' env S = some (y, S)) : evE B φ (.and_ e e') env S = some (y, S) := by
  simp only [evE, he, bndB, he', if_true]
theorem eq_int : eqD (.int num) (.int num) = some true := by
  have e : shp (.int num) = true := by kernel_rfl
  unfold eqD
  rw [e]
  simp [toP, PyData.eqv]
theorem eq_str (e : shp (.str w) = true) : eqD (.str w) (.str w) = some true := by
  unfold eqD
  rw [e]
  simp [toP, PyData.eqv]
theorem same_of {φ : Phi} {v : D} (h1 : evE B φ (.cmp .isN (.var 1) .cnon) [.frz v, .frz v, .emp, .emp, .emp] S = some (.bl false, S)) (h2 : evE B φ (.or_ (.isi (.var 1) [1]) (.isi (.var 0) [1])) [.frz v, .frz v, .emp, .emp, .emp] S = some (.bl false, S))
    (h3 : evE B φ (.isi (.var 1) [0, 2]) [.frz v, .frz v, .emp, .emp, .emp] S = some (.bl true, S)) (h4 : evE B φ (.isi (.var 0) [0, 2]) [.frz v, .frz v, .emp, .emp, .emp] S = some (.bl true, S)) (h5 : evE B φ (.cmp .eq (.isi (.var 0) [0]) (.isi (.var 1) [0])) [.frz v, .frz v, .emp, .emp, .emp] S = some (.bl true, S))
    (h6 : evE B φ (.cmp .eq (.var 0) (.var 1)) [.frz v, .frz v, .emp, .emp, .emp] S = some (.bl true, S)) : evSs B φ b__law_same [.frz v, .frz v, .emp, .emp, .emp] S = .ret (.bl true) [.frz v, .frz v, .emp, .emp, .emp] S := by
  unfold b__law_same
  rw [seq_of (env1 := [.frz v, .frz v, .emp, .emp, .emp]) (S1 := S) (by rw [if_of h1, if_neg Bool.false_ne_true]; simp only [evSs])]
  rw [seq_of (env1 := [.frz v, .frz v, .emp, .emp, .emp]) (S1 := S) (by rw [if_of h2, if_neg Bool.false_ne_true]; simp only [evSs])]
  rw [evSs, if_of h3, if_pos rfl, ret_of (and_of h4 (and_of h5 h6))]
  simp only [thnS]
theorem same_int : evC B (n + 1) 3 [.int num, .int num] S = some (.bl true, S) :=
  call_of (fn := ⟨5, 2, none, b__law_same⟩) rfl rfl rfl ⟨_, same_of (v := .int num) (by kernel_rfl) (by kernel_rfl) (by kernel_rfl) (by kernel_rfl) (by kernel_rfl) (by
    rw [evE, var_of rfl]
    simp only [bnd]
    rw [var_of rfl]
    simp only [cmpD, evCmp, eq_int]
    rfl)⟩
theorem same_str (hw : shp (.str w) = true) : evC B (n + 1) 3 [.str w, .str w] S = some (.bl true, S) :=
  call_of (fn := ⟨5, 2, none, b__law_same⟩) rfl rfl rfl ⟨_, same_of (v := .str w) (by kernel_rfl) (by kernel_rfl) (by kernel_rfl) (by kernel_rfl) (by kernel_rfl) (by
    rw [evE, var_of rfl]
    simp only [bnd]
    rw [var_of rfl]
    simp only [cmpD, evCmp, eq_str hw]
    rfl)⟩
theorem same_non : evC B (n + 1) 3 [.non, .non] S = some (.bl true, S) := call_of (fn := ⟨5, 2, none, b__law_same⟩) rfl rfl rfl ⟨[.frz .non, .frz .non, .emp, .emp, .emp], by kernel_rfl⟩
theorem made_c : evC B (n + 1) 4 [.int num, .str w] S = some (.lst (madeL num w), S) := by
  refine call_of (fn := ⟨3, 2, none, b__law_made_errors⟩) rfl rfl rfl ?_
  have h : (match evSs B (evC B n) b__law_made_errors (startE 3 [.int num, .str w]) S with | .ret d _ S' => some (d, S') | _ => none) = some (.lst (madeL num w), S) := by kernel_rfl
  revert h
  cases evSs B (evC B n) b__law_made_errors (startE 3 [.int num, .str w]) S with
  | ret d e S' => intro h; cases h; exact ⟨e, rfl⟩
  | _ => intro h; cases h
def lX : SE := (.cmp .ne (.call 5 [(.var 9)]) (.lc (List.map (fun p : Str × Nat => p.2) [("_law_k", 11)]) (.cmp .eq (.var 11) (.var 8)) (.nm 11) .rng [(.cint 21)] (.cbl true)))
def lY : SE := (.cmp .ne (.fld (.var 9) 0) (.idx (.var 4) (.var 8)))
def lT : SE := (.lst [(.isi (.var 9) [10]), (.isi (.var 9) [11]), (.isi (.var 9) [7]), (.isi (.var 9) [8]), (.isi (.var 9) [9])])
def lW : SE := (.cmp .ne (.var 10) (.lst [(.cmp .lt (.var 8) (.cint 18)), (.chain .le .lt (.cint 18) (.var 8) (.cint 20)), (.cmp .lt (.var 8) (.cint 18)), (.cmp .gt (.var 8) (.cint 17)), (.cmp .eq (.var 8) (.cint 20))]))
def lB : List SS := [(.asg 9 (.idx (.var 6) (.var 8))),
  (.if_ (.or_ lX (.or_ lY (.not_ (.call 3 [(.call 6 [(.var 9)]), (.idx (.var 5) (.var 8))])))) [(.ret (.cbl false))] []),
  (.asg 10 lT),
  (.if_ lW [(.ret (.cbl false))] [])]
def envL (scr : D) (num st : Int) (w : Str) (s8 s9 s10 s11 : Slot) : List Slot := [.frz scr, .frz (.ref 0), .frz (.int num), .frz (.str w), .frz (.lst tagsL), .frz (.lst (dueL num w)), .frz (.lst (madeL num w)), .frz (.int st), s8, s9, s10, s11]
theorem step {scr : D} {a : Int} {s9 s10 s11 : Slot} {v e told : D} {φ : Phi} (h1 : evE B φ (.idx (.var 6) (.var 8)) (envL scr num st w (.frz (.int a)) s9 s10 s11) S = some (e, S)) (hX : evE B φ lX (envL scr num st w (.frz (.int a)) (.frz e) s10 s11) S = some (.bl false, S))
    (hY : evE B φ lY (envL scr num st w (.frz (.int a)) (.frz e) s10 s11) S = some (.bl false, S)) (hv : evEs B φ [(.call 6 [(.var 9)]), (.idx (.var 5) (.var 8))] (envL scr num st w (.frz (.int a)) (.frz e) s10 s11) S = some ([v, v], S)) (hs : φ 3 [v, v] S = some (.bl true, S))
    (h3 : evE B φ lT (envL scr num st w (.frz (.int a)) (.frz e) s10 s11) S = some (told, S)) (h4 : evE B φ lW (envL scr num st w (.frz (.int a)) (.frz e) (.frz told) s11) S = some (.bl false, S)) :
    evSs B φ lB (envL scr num st w (.frz (.int a)) s9 s10 s11) S = .next (envL scr num st w (.frz (.int a)) (.frz e) (.frz told) s11) S := by
  unfold lB
  rw [seq_of (asg_of h1)]
  have z : evE B φ (.not_ (.call 3 [(.call 6 [(.var 9)]), (.idx (.var 5) (.var 8))])) (envL scr num st w (.frz (.int a)) (.frz e) s10 s11) S = some (.bl false, S) := by
    rw [evE, evE, hv]
    simp only [bnd, hs, bndB, Bool.not_true]
  refine (seq_of (env1 := envL scr num st w (.frz (.int a)) (.frz e) s10 s11) (S1 := S) ?_).trans ?_
  · refine (if_of (or_of hX (or_of hY z))).trans ?_
    rw [if_neg (by decide)]
    simp only [evSs]
  refine (seq_of (asg_of h3)).trans ?_
  refine (seq_of (env1 := envL scr num st w (.frz (.int a)) (.frz e) (.frz told) s11) (S1 := S) ?_).trans ?_
  · refine (if_of h4).trans ?_
    rw [if_neg (by decide)]
    simp only [evSs]
  · simp only [evSs]
theorem step0 (hw : shp (.str w) = true) {scr : D} {s9 s10 s11 : Slot} : evSs B (evC B (n + 1)) lB (envL scr num st w (.frz (.int 0)) s9 s10 s11) S = .next (envL scr num st w (.frz (.int 0)) (.frz ((madeL num w).getD 0 .non)) (.frz (.lst [.bl true, .bl false, .bl true, .bl false, .bl false])) s11) S :=
  step (v := .int num) (by kernel_rfl) (by kernel_rfl) (by kernel_rfl) (by kernel_rfl) same_int (by kernel_rfl) (by kernel_rfl)
theorem step1 (hw : shp (.str w) = true) {scr : D} {s9 s10 s11 : Slot} : evSs B (evC B (n + 1)) lB (envL scr num st w (.frz (.int 1)) s9 s10 s11) S = .next (envL scr num st w (.frz (.int 1)) (.frz ((madeL num w).getD 1 .non)) (.frz (.lst [.bl true, .bl false, .bl true, .bl false, .bl false])) s11) S :=
  step (v := .int num) (by kernel_rfl) (by kernel_rfl) (by kernel_rfl) (by kernel_rfl) same_int (by kernel_rfl) (by kernel_rfl)
theorem step2 (hw : shp (.str w) = true) {scr : D} {s9 s10 s11 : Slot} : evSs B (evC B (n + 1)) lB (envL scr num st w (.frz (.int 2)) s9 s10 s11) S = .next (envL scr num st w (.frz (.int 2)) (.frz ((madeL num w).getD 2 .non)) (.frz (.lst [.bl true, .bl false, .bl true, .bl false, .bl false])) s11) S :=
  step (v := .str w) (by kernel_rfl) (by kernel_rfl) (by kernel_rfl) (by kernel_rfl) (same_str hw) (by kernel_rfl) (by kernel_rfl)
theorem step3 (hw : shp (.str w) = true) {scr : D} {s9 s10 s11 : Slot} : evSs B (evC B (n + 1)) lB (envL scr num st w (.frz (.int 3)) s9 s10 s11) S = .next (envL scr num st w (.frz (.int 3)) (.frz ((madeL num w).getD 3 .non)) (.frz (.lst [.bl true, .bl false, .bl true, .bl false, .bl false])) s11) S :=
  step (v := .int num) (by kernel_rfl) (by kernel_rfl) (by kernel_rfl) (by kernel_rfl) same_int (by kernel_rfl) (by kernel_rfl)
theorem step4 (hw : shp (.str w) = true) {scr : D} {s9 s10 s11 : Slot} : evSs B (evC B (n + 1)) lB (envL scr num st w (.frz (.int 4)) s9 s10 s11) S = .next (envL scr num st w (.frz (.int 4)) (.frz ((madeL num w).getD 4 .non)) (.frz (.lst [.bl true, .bl false, .bl true, .bl false, .bl false])) s11) S :=
  step (v := .int num) (by kernel_rfl) (by kernel_rfl) (by kernel_rfl) (by kernel_rfl) same_int (by kernel_rfl) (by kernel_rfl)
theorem step5 (hw : shp (.str w) = true) {scr : D} {s9 s10 s11 : Slot} : evSs B (evC B (n + 1)) lB (envL scr num st w (.frz (.int 5)) s9 s10 s11) S = .next (envL scr num st w (.frz (.int 5)) (.frz ((madeL num w).getD 5 .non)) (.frz (.lst [.bl true, .bl false, .bl true, .bl false, .bl false])) s11) S :=
  step (v := .int num) (by kernel_rfl) (by kernel_rfl) (by kernel_rfl) (by kernel_rfl) same_int (by kernel_rfl) (by kernel_rfl)
theorem step6 (hw : shp (.str w) = true) {scr : D} {s9 s10 s11 : Slot} : evSs B (evC B (n + 1)) lB (envL scr num st w (.frz (.int 6)) s9 s10 s11) S = .next (envL scr num st w (.frz (.int 6)) (.frz ((madeL num w).getD 6 .non)) (.frz (.lst [.bl true, .bl false, .bl true, .bl false, .bl false])) s11) S :=
  step (v := .int num) (by kernel_rfl) (by kernel_rfl) (by kernel_rfl) (by kernel_rfl) same_int (by kernel_rfl) (by kernel_rfl)
theorem step7 (hw : shp (.str w) = true) {scr : D} {s9 s10 s11 : Slot} : evSs B (evC B (n + 1)) lB (envL scr num st w (.frz (.int 7)) s9 s10 s11) S = .next (envL scr num st w (.frz (.int 7)) (.frz ((madeL num w).getD 7 .non)) (.frz (.lst [.bl true, .bl false, .bl true, .bl false, .bl false])) s11) S :=
  step (v := .str w) (by kernel_rfl) (by kernel_rfl) (by kernel_rfl) (by kernel_rfl) (same_str hw) (by kernel_rfl) (by kernel_rfl)
theorem step8 (hw : shp (.str w) = true) {scr : D} {s9 s10 s11 : Slot} : evSs B (evC B (n + 1)) lB (envL scr num st w (.frz (.int 8)) s9 s10 s11) S = .next (envL scr num st w (.frz (.int 8)) (.frz ((madeL num w).getD 8 .non)) (.frz (.lst [.bl true, .bl false, .bl true, .bl false, .bl false])) s11) S :=
  step (v := .int num) (by kernel_rfl) (by kernel_rfl) (by kernel_rfl) (by kernel_rfl) same_int (by kernel_rfl) (by kernel_rfl)
theorem step9 (hw : shp (.str w) = true) {scr : D} {s9 s10 s11 : Slot} : evSs B (evC B (n + 1)) lB (envL scr num st w (.frz (.int 9)) s9 s10 s11) S = .next (envL scr num st w (.frz (.int 9)) (.frz ((madeL num w).getD 9 .non)) (.frz (.lst [.bl true, .bl false, .bl true, .bl false, .bl false])) s11) S :=
  step (v := .str w) (by kernel_rfl) (by kernel_rfl) (by kernel_rfl) (by kernel_rfl) (same_str hw) (by kernel_rfl) (by kernel_rfl)
theorem step10 (hw : shp (.str w) = true) {scr : D} {s9 s10 s11 : Slot} : evSs B (evC B (n + 1)) lB (envL scr num st w (.frz (.int 10)) s9 s10 s11) S = .next (envL scr num st w (.frz (.int 10)) (.frz ((madeL num w).getD 10 .non)) (.frz (.lst [.bl true, .bl false, .bl true, .bl false, .bl false])) s11) S :=
  step (v := .non) (by kernel_rfl) (by kernel_rfl) (by kernel_rfl) (by kernel_rfl) same_non (by kernel_rfl) (by kernel_rfl)
theorem step11 (hw : shp (.str w) = true) {scr : D} {s9 s10 s11 : Slot} : evSs B (evC B (n + 1)) lB (envL scr num st w (.frz (.int 11)) s9 s10 s11) S = .next (envL scr num st w (.frz (.int 11)) (.frz ((madeL num w).getD 11 .non)) (.frz (.lst [.bl true, .bl false, .bl true, .bl false, .bl false])) s11) S :=
  step (v := .non) (by kernel_rfl) (by kernel_rfl) (by kernel_rfl) (by kernel_rfl) same_non (by kernel_rfl) (by kernel_rfl)
theorem step12 (hw : shp (.str w) = true) {scr : D} {s9 s10 s11 : Slot} : evSs B (evC B (n + 1)) lB (envL scr num st w (.frz (.int 12)) s9 s10 s11) S = .next (envL scr num st w (.frz (.int 12)) (.frz ((madeL num w).getD 12 .non)) (.frz (.lst [.bl true, .bl false, .bl true, .bl false, .bl false])) s11) S :=
  step (v := .non) (by kernel_rfl) (by kernel_rfl) (by kernel_rfl) (by kernel_rfl) same_non (by kernel_rfl) (by kernel_rfl)
theorem step13 (hw : shp (.str w) = true) {scr : D} {s9 s10 s11 : Slot} : evSs B (evC B (n + 1)) lB (envL scr num st w (.frz (.int 13)) s9 s10 s11) S = .next (envL scr num st w (.frz (.int 13)) (.frz ((madeL num w).getD 13 .non)) (.frz (.lst [.bl true, .bl false, .bl true, .bl false, .bl false])) s11) S :=
  step (v := .str w) (by kernel_rfl) (by kernel_rfl) (by kernel_rfl) (by kernel_rfl) (same_str hw) (by kernel_rfl) (by kernel_rfl)
theorem step14 (hw : shp (.str w) = true) {scr : D} {s9 s10 s11 : Slot} : evSs B (evC B (n + 1)) lB (envL scr num st w (.frz (.int 14)) s9 s10 s11) S = .next (envL scr num st w (.frz (.int 14)) (.frz ((madeL num w).getD 14 .non)) (.frz (.lst [.bl true, .bl false, .bl true, .bl false, .bl false])) s11) S :=
  step (v := .str w) (by kernel_rfl) (by kernel_rfl) (by kernel_rfl) (by kernel_rfl) (same_str hw) (by kernel_rfl) (by kernel_rfl)
theorem step15 (hw : shp (.str w) = true) {scr : D} {s9 s10 s11 : Slot} : evSs B (evC B (n + 1)) lB (envL scr num st w (.frz (.int 15)) s9 s10 s11) S = .next (envL scr num st w (.frz (.int 15)) (.frz ((madeL num w).getD 15 .non)) (.frz (.lst [.bl true, .bl false, .bl true, .bl false, .bl false])) s11) S :=
  step (v := .int num) (by kernel_rfl) (by kernel_rfl) (by kernel_rfl) (by kernel_rfl) same_int (by kernel_rfl) (by kernel_rfl)
theorem step16 (hw : shp (.str w) = true) {scr : D} {s9 s10 s11 : Slot} : evSs B (evC B (n + 1)) lB (envL scr num st w (.frz (.int 16)) s9 s10 s11) S = .next (envL scr num st w (.frz (.int 16)) (.frz ((madeL num w).getD 16 .non)) (.frz (.lst [.bl true, .bl false, .bl true, .bl false, .bl false])) s11) S :=
  step (v := .str w) (by kernel_rfl) (by kernel_rfl) (by kernel_rfl) (by kernel_rfl) (same_str hw) (by kernel_rfl) (by kernel_rfl)
theorem step17 (hw : shp (.str w) = true) {scr : D} {s9 s10 s11 : Slot} : evSs B (evC B (n + 1)) lB (envL scr num st w (.frz (.int 17)) s9 s10 s11) S = .next (envL scr num st w (.frz (.int 17)) (.frz ((madeL num w).getD 17 .non)) (.frz (.lst [.bl true, .bl false, .bl true, .bl false, .bl false])) s11) S :=
  step (v := .int num) (by kernel_rfl) (by kernel_rfl) (by kernel_rfl) (by kernel_rfl) same_int (by kernel_rfl) (by kernel_rfl)
theorem step18 (hw : shp (.str w) = true) {scr : D} {s9 s10 s11 : Slot} : evSs B (evC B (n + 1)) lB (envL scr num st w (.frz (.int 18)) s9 s10 s11) S = .next (envL scr num st w (.frz (.int 18)) (.frz ((madeL num w).getD 18 .non)) (.frz (.lst [.bl false, .bl true, .bl false, .bl true, .bl false])) s11) S :=
  step (v := .str w) (by kernel_rfl) (by kernel_rfl) (by kernel_rfl) (by kernel_rfl) (same_str hw) (by kernel_rfl) (by kernel_rfl)
theorem step19 (hw : shp (.str w) = true) {scr : D} {s9 s10 s11 : Slot} : evSs B (evC B (n + 1)) lB (envL scr num st w (.frz (.int 19)) s9 s10 s11) S = .next (envL scr num st w (.frz (.int 19)) (.frz ((madeL num w).getD 19 .non)) (.frz (.lst [.bl false, .bl true, .bl false, .bl true, .bl false])) s11) S :=
  step (v := .str w) (by kernel_rfl) (by kernel_rfl) (by kernel_rfl) (by kernel_rfl) (same_str hw) (by kernel_rfl) (by kernel_rfl)
theorem step20 (hw : shp (.str w) = true) {scr : D} {s9 s10 s11 : Slot} : evSs B (evC B (n + 1)) lB (envL scr num st w (.frz (.int 20)) s9 s10 s11) S = .next (envL scr num st w (.frz (.int 20)) (.frz ((madeL num w).getD 20 .non)) (.frz (.lst [.bl false, .bl false, .bl false, .bl true, .bl true])) s11) S :=
  step (v := .non) (by kernel_rfl) (by kernel_rfl) (by kernel_rfl) (by kernel_rfl) same_non (by kernel_rfl) (by kernel_rfl)
end
end LW
end

section
namespace LW
open PySem PySem.Spec L2 RI
section
variable {n : Nat} {S S1 S2 : Store} {ns : List Int} {i c m num k st : Int} {w : Str} {env : List Slot} {d : D} {ds : List D} {f : Nat} {fn : Fn} {φ : Phi} {e : SE} {es : List SE}
theorem call_e (h : evEs B φ es env S = some (ds, S1)) (h2 : φ f ds S1 = some (d, S2)) : evE B φ (.call f es) env S = some (d, S2) := by simp only [evE, h, bnd, h2]
theorem es_nil : evEs B φ [] env S = some ([], S) := by simp only [evEs]
theorem es_cons (h : evE B φ e env S = some (d, S1)) (h2 : evEs B φ es env S1 = some (ds, S2)) : evEs B φ (e :: es) env S = some (d :: ds, S2) := by simp only [evEs, h, bnd, h2]
theorem loop_all {scr : D} (hw : shp (.str w) = true) {s11 : Slot} : ∀ (l : List Int), (∀ x ∈ l, 0 ≤ x ∧ x < 21) → ∀ s8 s9 s10, ∃ s8' s9' s10', forL (fun d env1 S2 => match bndT (.nm 8) d env1 with | some env2 => evSs B (evC B (n + 1)) lB env2 S2 | none => .bad) (l.map D.int) (envL scr num st w s8 s9 s10 s11) S = .next (envL scr num st w s8' s9' s10' s11) S
  | [], _, s8, s9, s10 => ⟨s8, s9, s10, by simp only [List.map_nil, forL]⟩
  | x :: r, h, s8, s9, s10 => by
    have hx := h x (List.mem_cons_self ..)
    have one : ∃ e told, evSs B (evC B (n + 1)) lB (envL scr num st w (.frz (.int x)) s9 s10 s11) S = .next (envL scr num st w (.frz (.int x)) (.frz e) (.frz told) s11) S := by
      have : x = 0 ∨ x = 1 ∨ x = 2 ∨ x = 3 ∨ x = 4 ∨ x = 5 ∨ x = 6 ∨ x = 7 ∨ x = 8 ∨ x = 9 ∨ x = 10 ∨ x = 11 ∨ x = 12 ∨ x = 13 ∨ x = 14 ∨ x = 15 ∨ x = 16 ∨ x = 17 ∨ x = 18 ∨ x = 19 ∨ x = 20 := by omega
      rcases this with rfl | rfl | rfl | rfl | rfl | rfl | rfl | rfl | rfl | rfl | rfl | rfl | rfl | rfl | rfl | rfl | rfl | rfl | rfl | rfl | rfl
      · exact ⟨_, _, step0 hw⟩
      · exact ⟨_, _, step1 hw⟩
      · exact ⟨_, _, step2 hw⟩
      · exact ⟨_, _, step3 hw⟩
      · exact ⟨_, _, step4 hw⟩
      · exact ⟨_, _, step5 hw⟩
      · exact ⟨_, _, step6 hw⟩
      · exact ⟨_, _, step7 hw⟩
      · exact ⟨_, _, step8 hw⟩
      · exact ⟨_, _, step9 hw⟩
      · exact ⟨_, _, step10 hw⟩
      · exact ⟨_, _, step11 hw⟩
      · exact ⟨_, _, step12 hw⟩
      · exact ⟨_, _, step13 hw⟩
      · exact ⟨_, _, step14 hw⟩
      · exact ⟨_, _, step15 hw⟩
      · exact ⟨_, _, step16 hw⟩
      · exact ⟨_, _, step17 hw⟩
      · exact ⟨_, _, step18 hw⟩
      · exact ⟨_, _, step19 hw⟩
      · exact ⟨_, _, step20 hw⟩
    obtain ⟨e, told, he⟩ := one
    obtain ⟨a, b, c, q⟩ := loop_all hw r (fun y hy => h y (List.mem_cons_of_mem _ hy)) (.frz (.int x)) (.frz e) (.frz told)
    refine ⟨a, b, c, ?_⟩
    simp only [List.map_cons, forL, bndT]
    have e8 : (envL scr num st w s8 s9 s10 s11).set 8 (.frz (.int x)) = envL scr num st w (.frz (.int x)) s9 s10 s11 := rfl
    rw [e8, he]
    exact q
def turns (st : Int) : List Int := [(st + 0) % 21, (st + 1) % 21, (st + 2) % 21, (st + 3) % 21, (st + 4) % 21, (st + 5) % 21, (st + 6) % 21, (st + 7) % 21, (st + 8) % 21, (st + 9) % 21, (st + 10) % 21, (st + 11) % 21, (st + 12) % 21, (st + 13) % 21, (st + 14) % 21, (st + 15) % 21, (st + 16) % 21, (st + 17) % 21, (st + 18) % 21, (st + 19) % 21, (st + 20) % 21]
theorem turns_ok : ∀ x ∈ turns st, 0 ≤ x ∧ x < 21 := by
  intro x hx
  unfold turns at hx
  simp only [List.mem_cons, List.not_mem_nil, or_false] at hx
  omega
theorem law_body {scr : D} {M0 M1 M2 M3 : Store} (h0 : φ 0 [scr] [] = some (.ref 0, M0)) (h1 : φ 1 [.ref 0, .int ((10 : Int) ^ (6 : Int).toNat)] M0 = some (.int num, M1)) (h2 : φ 2 [.ref 0, .lst [.str "b", .str "oak", .str "elm"]] M1 = some (.str w, M2)) (h4 : φ 4 [.int num, .str w] M2 = some (.lst (madeL num w), M2)) (h3 : φ 1 [.ref 0, .int 21] M2 = some (.int st, M3))
    (hl : ∃ s8' s9' s10', forL (fun d env1 S2 => match bndT (.nm 8) d env1 with | some env2 => evSs B φ lB env2 S2 | none => .bad) ((turns st).map D.int) (envL scr num st w .emp .emp .emp .emp) M3 = .next (envL scr num st w s8' s9' s10' .emp) M3) :
    ∃ env', evSs B φ b_law (startE 12 [scr]) [] = .ret (.bl true) env' M3 := by
  obtain ⟨s8', s9', s10', hl⟩ := hl
  have E1 : evE B φ (.call 0 [(.var 0)]) [.frz scr, .emp, .emp, .emp, .emp, .emp, .emp, .emp, .emp, .emp, .emp, .emp] [] = some (.ref 0, M0) := call_e (es_cons (var_of rfl) es_nil) h0
  have L0 : evE B φ (.lst [(.cstr "b"), (.cstr "oak"), (.cstr "elm")]) [.frz scr, .frz (.ref 0), .emp, .emp, .emp, .emp, .emp, .emp, .emp, .emp, .emp, .emp] M1 = some (.lst [.str "b", .str "oak", .str "elm"], M1) := by kernel_rfl
  have E2 : evS B φ (.par [(2, false), (3, false)] [(.call 1 [(.var 1), (.cint ((10 : Int) ^ (6 : Int).toNat))]), (.call 2 [(.var 1), (.lst [(.cstr "b"), (.cstr "oak"), (.cstr "elm")])])]) [.frz scr, .frz (.ref 0), .emp, .emp, .emp, .emp, .emp, .emp, .emp, .emp, .emp, .emp] M0 =
      .next [.frz scr, .frz (.ref 0), .frz (.int num), .frz (.str w), .emp, .emp, .emp, .emp, .emp, .emp, .emp, .emp] M2 := by
    rw [evS, es_cons (call_e (es_cons (var_of rfl) (es_cons cint_of es_nil)) h1) (es_cons (call_e (es_cons (var_of rfl) (es_cons L0 es_nil)) h2) es_nil)]
    rfl
  have E8 : evS B φ (.unp [(.nm 6), (.nm 7)] (.tup [(.call 4 [(.var 2), (.var 3)]), (.call 1 [(.var 1), (.cint 21)])])) [.frz scr, .frz (.ref 0), .frz (.int num), .frz (.str w), .frz (.lst tagsL), .frz (.lst (dueL num w)), .emp, .emp, .emp, .emp, .emp, .emp] M2 = .next (envL scr num st w .emp .emp .emp .emp) M3 := by
    rw [evS, evE, es_cons (call_e (es_cons (var_of rfl) (es_cons (var_of rfl) es_nil)) h4) (es_cons (call_e (es_cons (var_of rfl) (es_cons cint_of es_nil)) h3) es_nil)]
    kernel_rfl
  have E9 : evEs B φ [(.lc (List.map (fun p : Str × Nat => p.2) [("_law_k", 11)]) (.bin .mod (.bi 8 [(.bin .add (.var 7) (.var 11))]) (.cint 21)) (.nm 11) .rng [(.cint 21)] (.cbl true))] (envL scr num st w .emp .emp .emp .emp) M3 = some ([.lst ((turns st).map D.int)], M3) := by kernel_rfl
  have E9' : evS B φ (.for_ none (.nm 8) .seq [(.lc (List.map (fun p : Str × Nat => p.2) [("_law_k", 11)]) (.bin .mod (.bi 8 [(.bin .add (.var 7) (.var 11))]) (.cint 21)) (.nm 11) .rng [(.cint 21)] (.cbl true))] lB) (envL scr num st w .emp .emp .emp .emp) M3 = .next (envL scr num st w s8' s9' s10' .emp) M3 := by
    rw [evS, E9]
    exact hl
  have E10 : evE B φ (.cmp .eq (.bi 0 [(.var 6)]) (.cint 21)) (envL scr num st w s8' s9' s10' .emp) M3 = some (.bl true, M3) := by kernel_rfl
  refine ⟨envL scr num st w s8' s9' s10' .emp, ?_⟩
  refine (seq_of (asg_of E1)).trans ?_
  refine (seq_of E2).trans ?_
  refine (seq_of (asg_of (d := .str "InvalidRatio InvalidRow InvalidName InvalidTie InvalidWish InvalidTimes InvalidLimit InvalidCommand") (S1 := M2) (by kernel_rfl))).trans ?_
  refine (seq_of (asg_of (d := .str "InvalidRatio InvalidRow InvalidName InvalidTie InvalidWish InvalidTimes InvalidLimit InvalidCommand NotTied SameName NamesDiffer EmptyFigure Impossible Possible NotImplied ParseError") (S1 := M2) (by kernel_rfl))).trans ?_
  refine (seq_of (asg_of (d := .lst [.str "InvalidRatio", .str "InvalidRow", .str "InvalidName", .str "InvalidTie", .str "InvalidWish", .str "InvalidTimes", .str "InvalidLimit", .str "InvalidCommand", .str "NotTied", .str "SameName", .str "NamesDiffer", .str "EmptyFigure", .str "Impossible", .str "Possible", .str "NotImplied", .str "ParseError", .str "DuplicateLabel", .str "CapacityExceeded"]) (S1 := M2) (by kernel_rfl))).trans ?_
  refine (seq_of (asg_of (d := .lst tagsL) (S1 := M2) (by kernel_rfl))).trans ?_
  refine (seq_of (asg_of (d := .lst (dueL num w)) (S1 := M2) (by kernel_rfl))).trans ?_
  refine (seq_of E8).trans ?_
  refine (seq_of E9').trans ?_
  exact ret_of E10
end
theorem plain : Plain := fun ns hl => by
  obtain ⟨m, e0⟩ := feed_c (n := 6) hl
  obtain ⟨num, i1, c1, _, _, hi1, e1⟩ := draw_c (n := 6) (ns := ns) (i := 0) (c := 0) (m := m) (k := (10 : Int) ^ (6 : Int).toNat) (by decide) (by decide) (by decide +kernel)
  obtain ⟨w, i2, c2, hsh, hi2, e2⟩ := any_c (n := 5) (ns := ns) (c := c1) (m := m) hi1
  obtain ⟨st, i3, c3, _, _, _, e3⟩ := draw_c (n := 6) (ns := ns) (c := c2) (m := m) (k := 21) hi2 (by decide) (by decide +kernel)
  exact ⟨FS ns i3 c3 m, call_of (n := 7) (fn := ⟨12, 1, none, b_law⟩) rfl rfl rfl (law_body e0 e1 e2 made_c e3 (loop_all (n := 6) hsh _ turns_ok .emp .emp .emp))⟩
end LW
theorem PySem.Challenge.cw_tiespan_k59_refusals_by_their_classes_holds : PySem.Challenge.rw_tiespan_k59_refusals_by_their_classes.Holds :=
  holds_of LW.plain
end
