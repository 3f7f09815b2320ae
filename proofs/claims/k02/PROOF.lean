import PyProof.Rows.All
import Wide.All
import OpenK.AllK
import Wide.FinOn
import KE.KStateDown
import Lean
import HandS.ForMost
import HandS.Wide
import HandS.WideBits
import HandS.IsInst
import HandS.Flow
import HandS.Style
import HandS.Conv
import HandS.TupAny
import HandS.TupMul
import HandS.Deep
import HandS.Lambda
import KE.KTupSum
import KE.KDictKeyed
import KE.KDictWalk
import KE.KeyNested
import KE.KDictDisplayH
import HandS.HeadEnd
import HandS.RaiseMore
import HandS.TryOnly
import HandS.Defaults
import KE.GoesEnum
import HandS.Iter
import HandS.More
import HandS.Star
import HandS.Property
import HandS.ClsMeth
import PyProof.CallStr
import PyProof.InstSpecial
import PyProof.Rows.Range3
import PyProof.Conv_bool
import HandS.FStr
import HandS.SortInts
import HandS.TupLen
import KE.KDictCopyH
import HandS.DictComp
import HandS.EndBits
import HandS.Head0
import HandS.Head1
import HandS.Head2
import HandS.HeadHook1
import HandS.HeadHook2
import HandS.HeadHook4
import HandS.HeadNt
import HandS.Words
import PySem.Challenge.RW_pileworn_k02_rules_made
set_option Elab.async false
set_option linter.all false
set_option maxRecDepth 100000
set_option maxHeartbeats 4000000
/-! EvA: pure values, cells, results; the relation to the layer's abstract heap. -/
namespace Ev
open PySem PySem.Spec L2

/-- the world of the run (hashes of texts hang on it) -/
class TheW where
  w : World
/-- a value; tuples and lists that are never changed again are told whole, a cell is told by its number -/
inductive D where
  | non | bl (b : Bool) | int (i : Int) | str (s : Str) | tup (xs : List D) | lst (xs : List D) | scr (xs : List D) | ref (n : Nat)
  | ins (c : Str) (ks : List Str) (vs : List D) | cls (c : Str)
  | dct (ks : List NestedKey) (vs : List D)
  | fnv (x : Str)
  | exc (c : Str) (ks : List Str) (vs : List D)
instance : Inhabited D := ⟨.non⟩
/-- what a cell holds -/
inductive O where
  | lst (xs : List D) | ins (c : Str) (ks : List Str) (vs : List D) | dct (ks : List NestedKey) (vs : List D)
  /-- the table of code objects of the def y, all of the name q -/
  | tbl (y : Str) (q : Str)
/-- a cell: let go, open to changes, being walked -/
inductive Cl where
  | dead | live (o : O) | lock (o : O)
abbrev Hs := List Cl
abbrev En := List (Option D)

def mapO {α β : Type} (f : α → Option β) : List α → Option (List β)
  | [] => some []
  | x :: xs => match f x with
    | none => none
    | some y => match mapO f xs with
      | none => none
      | some ys => some (y :: ys)

mutual
def D.und (n : Nat) : D → Bool
  | .tup xs => D.undAll n xs
  | .lst xs => D.undAll n xs
  | .scr xs => D.undAll n xs
  | .ref m => Nat.blt m n
  | .ins _ _ vs => D.undAll n vs
  | .dct _ vs => D.undAll n vs
  | .cls _ => true
  | .fnv _ => true
  | .exc _ _ vs => D.undAll n vs
  | .non => true
  | .bl _ => true
  | .int _ => true
  | .str _ => true
def D.undAll (n : Nat) : List D → Bool
  | [] => true
  | x :: xs => D.und n x && D.undAll n xs
end
def O.und (n : Nat) : O → Bool
  | .lst xs => D.undAll n xs
  | .ins _ _ xs => D.undAll n xs
  | .dct _ xs => D.undAll n xs
  | .tbl _ _ => true

/-- each number of a cell in a value is put by what stands for it -/
def bind2 {α β γ : Type} (x : Option α) (y : Option β) (f : α → β → γ) : Option γ := match x with
  | none => none
  | some a => match y with
    | none => none
    | some b => some (f a b)
mutual
def D.walk (f : Nat → Option D) : D → Option D
  | .tup xs => (D.walkAll f xs).map .tup
  | .lst xs => (D.walkAll f xs).map .lst
  | .scr xs => (D.walkAll f xs).map .scr
  | .ref m => f m
  | .ins c ks vs => (D.walkAll f vs).map (.ins c ks)
  | .dct ks vs => (D.walkAll f vs).map (.dct ks)
  | .cls c => some (.cls c)
  | .fnv c => some (.fnv c)
  | .exc c ks vs => (D.walkAll f vs).map (.exc c ks)
  | .non => some .non
  | .bl b => some (.bl b)
  | .int i => some (.int i)
  | .str s => some (.str s)
def D.walkAll (f : Nat → Option D) : List D → Option (List D)
  | [] => some []
  | x :: xs => bind2 (D.walk f x) (D.walkAll f xs) List.cons
end
/-- the list that a cell holds, to be read -/
def lstAt (h : Hs) (m : Nat) : Option (List D) := match h[m]? with
  | some (.live (.lst xs)) => some xs
  | some (.lock (.lst xs)) => some xs
  | _ => none
def cellAt (h : Hs) (m : Nat) : Option O := match h[m]? with
  | some (.live o) => some o
  | some (.lock o) => some o
  | _ => none
/-- cells from b on are told whole -/
def frz (b : Nat) (h : Hs) : Nat → D → Option D
  | 0 => D.walk fun m => if m < b then some (.ref m) else none
  | k + 1 => D.walk fun m => if m < b then some (.ref m) else match cellAt h m with
    | none => none
    | some (.lst xs) => (mapO (frz b h k) xs).map .lst
    | some (.ins c ks xs) => (mapO (frz b h k) xs).map (.ins c ks)
    | some (.dct ks xs) => (mapO (frz b h k) xs).map (.dct ks)
    | some (.tbl _ _) => none

mutual
def D.dat (f : Nat → Option PyData) : D → Option PyData
  | .tup xs => (D.datAll f xs).map .tuple
  | .lst xs => (D.datAll f xs).map .list
  | .scr xs => (D.datAll f xs).map .list
  | .ref m => f m
  | .ins _ _ _ => none
  | .dct _ _ => none
  | .cls _ => none
  | .fnv _ => none
  | .exc _ _ _ => none
  | .non => some .none
  | .bl b => some (.bool b)
  | .int i => some (.int i)
  | .str s => some (.str s)
def D.datAll (f : Nat → Option PyData) : List D → Option (List PyData)
  | [] => some []
  | x :: xs => bind2 (D.dat f x) (D.datAll f xs) List.cons
end
/-- a value as plain data -/
def data (h : Hs) : Nat → D → Option PyData
  | 0 => D.dat fun _ => none
  | k + 1 => D.dat fun m => match lstAt h m with
    | none => none
    | some xs => (mapO (data h k) xs).map .list

inductive Res (α : Type) where
  | ok (a : α) (h : Hs) | err (x : D) (h : Hs) | bad
def Res.bind {α β : Type} (r : Res α) (f : α → Hs → Res β) : Res β := match r with
  | .ok a h => f a h
  | .err x h => .err x h
  | .bad => .bad
def Res.of {α : Type} (o : Option α) (h : Hs) : Res α := match o with
  | some a => .ok a h
  | none => .bad
abbrev Den := En → Hs → Res D
abbrev DenT := En → Hs → Res Bool
abbrev DenA := En → Hs → Res (List D)

/-! ### the relation -/
/-- where the cells stand -/
structure Io where
  c : List (Option Addr)
  g : List Addr
def Own (ι : Io) (a : Addr) : Prop := (∃ n : Nat, ι.c[n]? = some (some a)) ∨ a ∈ ι.g
def Mt (ι : Io) (h : Hs) (a : Addr) : Prop := ∃ n : Nat, ι.c[n]? = some (some a) ∧ ∃ o, h[n]? = some (.live o)

/-- the list, the tuple at a is never changed again -/
def FL (ι : Io) (H : Hp) (a : Addr) (vs : List V) : Prop := H a = some (.lst vs) ∧ ¬ Own ι a
def FS (K : PySem.W.Frag) (ι : Io) (H : Hp) (a : Addr) (vs : List V) : Prop :=
  (Rd H a (.lst vs) ∧ ¬ Own ι a) ∨ (SqL K (fun _ => none) a vs)
def FT (K : PySem.W.Frag) (ι : Io) (H : Hp) (a : Addr) (vs : List V) : Prop :=
  (Rd H a (.tup vs) ∧ ¬ Own ι a) ∨ (SqT K (fun _ => none) a vs)

def FI (ι : Io) (H : Hp) (a C dx : Addr) (fs : List (Str × V)) : Prop := H a = some (.ins C dx fs) ∧ ¬ Own ι a
/-- the own dict of an exception -/
def FXd (ι : Io) (H : Hp) (d : Option Addr) (fs : List (Str × V)) : Prop := (∃ dx, d = some dx ∧ H dx = some (.xd fs) ∧ ¬ Own ι dx) ∨ (d = none ∧ fs = [])

mutual
def kd : NestedKey → D
  | .none => .non
  | .num i => .int i
  | .text s => .str s
  | .tup ks => .tup (kds ks)
def kds : List NestedKey → List D
  | [] => []
  | k :: ks => kd k :: kds ks
end
/-- the object o stands at a, just so -/
def XO (a : Addr) (o : Obj) : HO := .ext fun h => h.get? a = some o
/-- the dict o has these keys (their tuples at these places) and values -/
def DEnt (w : World) (o : Obj) (xs : List (NestedKey × Addr × Value)) : Prop :=
  o.ExactDict ∧ (∃ es ep, o.data = .dict es ep ∧ es.toList = xs.map fun x => ⟨x.1.hash w, .ref x.2.1, x.2.2⟩) ∧ (xs.map (·.1)).Nodup ∧ xs.length ≤ sizeLine ∧ ∀ x ∈ xs, x.1.depth ≤ 8
/-- what stands in a dict: keys of any sort, their values -/
abbrev Ent := NestedKey × Value × Value
def entM (w : World) (x : Ent) : DictEntry := ⟨x.1.hash w, x.2.1, x.2.2⟩
def DEntM (w : World) (o : Obj) (xs : List Ent) : Prop :=
  o.ExactDict ∧ (∃ es ep, o.data = .dict es ep ∧ es.toList = xs.map (entM w)) ∧ (xs.map (·.1)).Nodup ∧ xs.length ≤ sizeLine ∧ ∀ x ∈ xs, x.1.depth ≤ 8
def isT : NestedKey → Bool
  | .tup _ => true
  | _ => false
def allT (ks : List NestedKey) : Bool := ks.all isT
def DTu (w : World) (o : Obj) (ks : List NestedKey) (kv vv : List V) : Prop := ∃ xs, DEnt w o xs ∧ ks = xs.map (·.1) ∧ kv = xs.map (fun x => V.ref x.2.1) ∧ Vals vv (xs.map (·.2.2))
/-- not all of the keys are tuples -/
def DIn (w : World) (o : Obj) (ks : List NestedKey) (kv vv : List V) : Prop := ∃ xs : List Ent, DEntM w o xs ∧ ks = xs.map (·.1) ∧ Vals kv (xs.map (·.2.1)) ∧ Vals vv (xs.map (·.2.2)) ∧ allT ks = false
/-- an exception that was caught -/
def FX (ι : Io) (H : Hp) (a C : Addr) (fs : List (Str × V)) : Prop := ∃ oe : Obj, H a = some (XO a oe) ∧ oe.cls = .ref C ∧ (∃ vs, oe.data = .fields vs) ∧ FXd ι H oe.dict fs ∧ ¬ Own ι a
def FD0 (w : World) (H : Hp) (a : Addr) (ks : List NestedKey) (kv vv : List V) : Prop :=
  ∃ o, H a = some (XO a o) ∧ (DTu w o ks kv vv ∨ DIn w o ks kv vv) ∧ (a == sysModules) = false
def FD (w : World) (ι : Io) (H : Hp) (a : Addr) (ks : List NestedKey) (kv vv : List V) : Prop := FD0 w H a ks kv vv ∧ ¬ Own ι a
/-- no code object -/
def NoC (u : HO) : Prop := ∀ c q, u ≠ LamX.CodeO c q
theorem noC_X {a : Addr} {o : Obj} (hd : ∀ vs, o.data ≠ .fields vs) (hf : o.isFreed = false) : NoC (XO a o) := fun c q z => by
  unfold XO LamX.CodeO at z
  have z := HO.ext.inj z
  obtain ⟨hp, e1, e2⟩ : ∃ hp : Heap, hp.get? a = some o ∧ ∀ c o', hp.get? c = some o' → o' = o := by
    refine ⟨⟨(Array.replicate a ⟨.none, none, .freed, #[]⟩).push o, {}⟩, ?_, fun c o' e => ?_⟩
    · have := Heap.get?_push_size ⟨Array.replicate a ⟨.none, none, .freed, #[]⟩, {}⟩ hf
      simpa [Heap.push] using this
    · unfold Heap.get? at e
      simp only [Array.getElem?_push, Array.getElem?_replicate] at e
      by_cases h1 : c = a
      · subst h1
        simp at e
        revert e
        split
        · intro e; cases e
        · intro e; exact (Option.some.inj e).symm
      · by_cases h2 : c < a
        · simp [h1, h2] at e
        · simp [h1, h2] at e
  have y := congrFun z hp
  obtain ⟨oc, vs, t, g1, g2, _⟩ := y.mp e1
  rw [e2 _ _ g1] at g2
  exact hd _ g2
theorem noC_D {w : World} {a : Addr} {o : Obj} {xs : List (NestedKey × Addr × Value)} (d : DEnt w o xs) : NoC (XO a o) := by
  obtain ⟨_, ⟨es, ep, e, _⟩, _⟩ := d
  refine noC_X (fun vs z => ?_) ?_
  · rw [e] at z; cases z
  · obtain ⟨c, dd, dt, sl⟩ := o
    dsimp only at e
    subst e
    rfl
theorem noC_DM {w : World} {a : Addr} {o : Obj} {xs : List Ent} (d : DEntM w o xs) : NoC (XO a o) := by
  obtain ⟨_, ⟨es, ep, e, _⟩, _⟩ := d
  refine noC_X (fun vs z => ?_) ?_
  · rw [e] at z; cases z
  · obtain ⟨c, dd, dt, sl⟩ := o
    dsimp only at e
    subst e
    rfl
variable [TheW]
/-- the name of the class at C -/
def nmOf (K : PySem.W.Frag) (C : Addr) : Option Str := match K.lookup C with
  | some ⟨_, _, .cls cd, _⟩ => some cd.name
  | _ => none
/-- where the def of this name stands -/
def gaOf (K : PySem.W.Frag) (x : Str) : Addr := match PySem.W.nsIn K mainGlobals x with
  | some (some (.ref a)) => a
  | _ => 0
/-- the code object of the def of this name, its table -/
def cdA (K : PySem.W.Frag) (y : Str) : Addr := match K.lookup (gaOf K y) with
  | some ⟨_, _, .func fd, _⟩ => (match fd.code with
    | .ref c => c
    | _ => 0)
  | _ => 0
def tbA (K : PySem.W.Frag) (y : Str) : Addr := match K.lookup (cdA K y) with
  | some ⟨_, _, .fields vs, _⟩ => (match (vs[11]? : Option Value) with
    | some (.ref P) => P
    | _ => 0)
  | _ => 0
mutual
inductive Rep (K : PySem.W.Frag) (ι : Io) (H : Hp) : D → V → Prop
  | non : Rep K ι H .non .non
  | bl (b : Bool) : Rep K ι H (.bl b) (.bl b)
  | int (i : Int) : Rep K ι H (.int i) (.int i)
  | str (s : Str) : Rep K ι H (.str s) (.str s)
  | tup {a : Addr} {vs : List V} {ds : List D} : FT K ι H a vs → RepL K ι H ds vs → Rep K ι H (.tup ds) (.ref a)
  | lst {a : Addr} {vs : List V} {ds : List D} : FL ι H a vs → RepL K ι H ds vs → Rep K ι H (.lst ds) (.ref a)
  | scr {a : Addr} {vs : List V} {ds : List D} : FS K ι H a vs → RepL K ι H ds vs → Rep K ι H (.scr ds) (.ref a)
  | ins {a C dx : Addr} {c : Str} {ks : List Str} {fs : List (Str × V)} {ds : List D} : FI ι H a C dx fs → nmOf K C = some c → ks = fs.map Prod.fst → RepL K ι H ds (fs.map Prod.snd) → Rep K ι H (.ins c ks ds) (.ref a)
  | cls {C : Addr} {c : Str} : nmOf K C = some c → Rep K ι H (.cls c) (.ref C)
  | exc {a C : Addr} {c : Str} {ks : List Str} {fs : List (Str × V)} {ds : List D} : FX ι H a C fs → nmOf K C = some c → ks = fs.map Prod.fst → RepL K ι H ds (fs.map Prod.snd) → Rep K ι H (.exc c ks ds) (.ref a)
  | dct {a : Addr} {ks : List NestedKey} {kv vv : List V} {ds : List D} : FD TheW.w ι H a ks kv vv → RepL K ι H (kds ks) kv → RepL K ι H ds vv → Rep K ι H (.dct ks ds) (.ref a)
  | fnv (x : Str) : Rep K ι H (.fnv x) (.ref (gaOf K x))
  | ref {n : Nat} {a : Addr} : ι.c[n]? = some (some a) → Rep K ι H (.ref n) (.ref a)
  | dead {n : Nat} {v : V} : ι.c[n]? = some none → Rep K ι H (.ref n) v
inductive RepL (K : PySem.W.Frag) (ι : Io) (H : Hp) : List D → List V → Prop
  | nil : RepL K ι H [] []
  | cons {d : D} {v : V} {ds : List D} {vs : List V} : Rep K ι H d v → RepL K ι H ds vs → RepL K ι H (d :: ds) (v :: vs)
end

/-- a table of code objects: what it tells bears this name, and is none of ours -/
def TabE (ι : Io) (H : Hp) (P : Addr) (q : Str) : Prop := ∃ ps : Array Value, H P = some (.tbl ps) ∧ TriplesOk ps.toList ∧ ∀ (pos : Pos) (cv : Value), codeAmong pos ps.toList = some cv → ∃ c, cv = .ref c ∧ H c = some (LamX.CodeO c q) ∧ ¬ Own ι c
def ORep (K : PySem.W.Frag) (ι : Io) (H : Hp) (a : Addr) : O → Prop
  | .lst ds => ∃ vs, H a = some (.lst vs) ∧ RepL K ι H ds vs
  | .ins c ks ds => ∃ C dx fs, H a = some (.ins C dx fs) ∧ nmOf K C = some c ∧ ks = fs.map Prod.fst ∧ RepL K ι H ds (fs.map Prod.snd)
  | .dct ks ds => ∃ kv vv, FD0 TheW.w H a ks kv vv ∧ RepL K ι H (kds ks) kv ∧ RepL K ι H ds vv
  | .tbl y q => a = tbA K y ∧ TabE ι H a q
structure RH (K : PySem.W.Frag) (ι : Io) (h : Hs) (H : Hp) : Prop where
  len : ι.c.length = h.length
  gs : ∀ a ∈ ι.g, ∃ u, H a = some u ∧ NoC u
  gd : ∀ a ∈ ι.g, ∀ n : Nat, ι.c[n]? ≠ some (some a)
  dead : ∀ n : Nat, h[n]? = some .dead → ι.c[n]? = some none
  cell : ∀ (n : Nat) (o : O), h[n]? = some (.live o) ∨ h[n]? = some (.lock o) → ∃ a, ι.c[n]? = some (some a) ∧ ORep K ι H a o ∧ o.und n = true
  inj : ∀ (n m : Nat) (a : Addr), ι.c[n]? = some (some a) → ι.c[m]? = some (some a) → n = m
structure RE (K : PySem.W.Frag) (ι : Io) (e : En) (σ : St) (H : Hp) : Prop where
  len : e.length = σ.length
  get : ∀ (i : Nat) (d : D), e[i]? = some (some d) → ∃ v, σ[i]? = some (some v) ∧ Rep K ι H d v
/-- the cells stand where they stood; one that was open to changes may have been let go, it is told whole from then on -/
def Pre (ι : Io) (h : Hs) (H : Hp) (ι' : Io) (H' : Hp) : Prop := ∀ (n : Nat) (x : Option Addr), ι.c[n]? = some x → ι'.c[n]? = some x ∨ (ι'.c[n]? = some none ∧ ∀ a, x = some a → (Mt ι h a ∨ H a = none) ∧ (∃ o, H' a = some o) ∧ ¬ Own ι' a)
structure Ext (ι : Io) (h : Hs) (H : Hp) (ι' : Io) (h' : Hs) (H' : Hp) : Prop where
  pre : Pre ι h H ι' H'
  frame : ∀ a o, H a = some o → ¬ Mt ι h a → H' a = some o
  own : ∀ a, Own ι' a → Own ι a ∨ H a = none
  mt : ∀ a, Mt ι' h' a → Mt ι h a ∨ H a = none
  lk : ∀ (n : Nat) (o : O), h[n]? = some (.lock o) → h'[n]? = some (.lock o)
  g : ι'.g = ι.g
/-- what Ext gives for values: nothing that is told whole changes, nothing that is walked -/
structure Pres (ι : Io) (h : Hs) (H : Hp) (ι' : Io) (h' : Hs) (H' : Hp) : Prop where
  pre : ∀ (n : Nat) (x : Option Addr), ι.c[n]? = some x → ι'.c[n]? = some x ∨ (ι'.c[n]? = some none ∧ ∀ a, x = some a → Mt ι h a ∨ H a = none)
  fz : ∀ a o, H a = some o → ¬ Own ι a → H' a = some o ∧ ¬ Own ι' a
  nm : ∀ (n : Nat) a o, ι.c[n]? = some (some a) → H a = some o → ¬ Mt ι h a → H' a = some o ∧ ¬ Mt ι' h' a

section
variable {K : PySem.W.Frag} {ι ι' ι'' : Io} {h h' h'' : Hs} {H H' H'' : Hp}
theorem Mt.own {a : Addr} (m : Mt ι h a) : Own ι a := let ⟨n, e, _⟩ := m; .inl ⟨n, e⟩
theorem Pre.comp (p : Pre ι h H ι' H') (back : ∀ a, Mt ι' h' a ∨ H' a = none → Mt ι h a ∨ H a = none) (q : Pre ι' h' H' ι'' H'') (fr : ∀ a o, H' a = some o → ¬ Own ι' a → (∃ o, H'' a = some o) ∧ ¬ Own ι'' a) : Pre ι h H ι'' H'' := fun n x e => by
  rcases p n x e with e1 | ⟨e1, k1⟩
  · rcases q n x e1 with e2 | ⟨e2, k2⟩
    · exact .inl e2
    · exact .inr ⟨e2, fun a ea => ⟨back a (k2 a ea).1, (k2 a ea).2⟩⟩
  · refine .inr ⟨?_, fun a ea => ?_⟩
    · rcases q n _ e1 with e2 | ⟨e2, _⟩
      · exact e2
      · exact e2
    · obtain ⟨k2, ⟨o, k3⟩, k4⟩ := k1 a ea
      exact ⟨k2, fr a o k3 k4⟩
theorem Pre.lt (p : Pre ι h H ι' H') {n : Nat} (hn : n < ι.c.length) : n < ι'.c.length := by
  rcases p n _ (List.getElem?_eq_getElem hn) with e | ⟨e, _⟩
  · exact (List.getElem?_eq_some_iff.mp e).1
  · exact (List.getElem?_eq_some_iff.mp e).1
theorem Pre.at_some (p : Pre ι h H ι' H') {n : Nat} {x : Option Addr} {a : Addr} (e : ι.c[n]? = some x) (e' : ι'.c[n]? = some (some a)) : x = some a := by
  rcases p n _ e with z | ⟨z, _⟩
  · rw [z] at e'; cases e'; rfl
  · rw [z] at e'; cases e'
theorem Pres.keep (p : Pres ι h H ι' h' H') {n : Nat} {a : Addr} {o : HO} (e : ι.c[n]? = some (some a)) (ho : H a = some o) (nm : ¬ Mt ι h a) : ι'.c[n]? = some (some a) := by
  rcases p.pre n _ e with z | ⟨_, z⟩
  · exact z
  · rcases z a rfl with z | z
    · exact absurd z nm
    · rw [z] at ho; cases ho
theorem Ext.refl : Ext ι h H ι h H := ⟨fun _ _ e => .inl e, fun _ _ e _ => e, fun _ o => .inl o, fun _ m => .inl m, fun _ _ e => e, rfl⟩
theorem Ext.trans (x : Ext ι h H ι' h' H') (y : Ext ι' h' H' ι'' h'' H'') : Ext ι h H ι'' h'' H'' where
  pre := x.pre.comp (h' := h') (fun a m => by
    rcases m with m | q
    · exact x.mt a m
    · by_cases m : Mt ι h a
      · exact .inl m
      · cases z : H a with
        | none => exact .inr rfl
        | some u => rw [x.frame a u z m] at q; cases q) y.pre fun a o e no => ⟨⟨o, y.frame a o e fun m => no m.own⟩, fun q => by
    rcases y.own a q with q | q
    · exact no q
    · rw [q] at e; cases e⟩
  frame := fun a o e nm => by
    refine y.frame a o (x.frame a o e nm) fun m => ?_
    rcases x.mt a m with q | q
    · exact nm q
    · rw [q] at e; cases e
  own := fun a o => by
    rcases y.own a o with q | q
    · exact x.own a q
    · by_cases m : Mt ι h a
      · exact .inl m.own
      · cases z : H a with
        | none => exact .inr rfl
        | some u => rw [x.frame a u z m] at q; cases q
  mt := fun a o => by
    rcases y.mt a o with q | q
    · exact x.mt a q
    · by_cases m : Mt ι h a
      · exact .inl m
      · cases z : H a with
        | none => exact .inr rfl
        | some u => rw [x.frame a u z m] at q; cases q
  lk := fun n o e => y.lk n o (x.lk n o e)
  g := y.g.trans x.g
theorem Ext.pres (x : Ext ι h H ι' h' H') : Pres ι h H ι' h' H' where
  pre := fun n z e => by
    rcases x.pre n z e with q | ⟨q, k⟩
    · exact .inl q
    · exact .inr ⟨q, fun a ea => (k a ea).1⟩
  fz := fun a o e no => ⟨x.frame a o e fun m => no m.own, fun q => by
    rcases x.own a q with z | z
    · exact no z
    · rw [z] at e; cases e⟩
  nm := fun n a o _ e no => ⟨x.frame a o e no, fun q => by
    rcases x.mt a q with z | z
    · exact no z
    · rw [z] at e; cases e⟩
theorem Rd.pr {a : Addr} {u : HO} (x : Pres ι h H ι' h' H') (r : Rd H a u) (n : ¬ Own ι a) : Rd H' a u ∧ ¬ Own ι' a := by
  rcases r with r | ⟨o, r⟩
  · exact ⟨.inl (x.fz _ _ r n).1, (x.fz _ _ r n).2⟩
  · exact ⟨.inr ⟨o, (x.fz _ _ r n).1⟩, (x.fz _ _ r n).2⟩
theorem FL.pr {a : Addr} {vs : List V} (x : Pres ι h H ι' h' H') (r : FL ι H a vs) : FL ι' H' a vs := x.fz _ _ r.1 r.2
theorem FI.pr {a C dx : Addr} {fs : List (Str × V)} (x : Pres ι h H ι' h' H') (r : FI ι H a C dx fs) : FI ι' H' a C dx fs := x.fz _ _ r.1 r.2
theorem FXd.pr {d : Option Addr} {fs : List (Str × V)} (x : Pres ι h H ι' h' H') (r : FXd ι H d fs) : FXd ι' H' d fs := by
  rcases r with ⟨dx, e, q, n⟩ | r
  · exact .inl ⟨dx, e, (x.fz _ _ q n).1, (x.fz _ _ q n).2⟩
  · exact .inr r
theorem FX.pr {a C : Addr} {fs : List (Str × V)} (x : Pres ι h H ι' h' H') (r : FX ι H a C fs) : FX ι' H' a C fs := by
  obtain ⟨oe, e1, e2, e3, e4, n⟩ := r
  exact ⟨oe, (x.fz _ _ e1 n).1, e2, e3, e4.pr x, (x.fz _ _ e1 n).2⟩
theorem FD0.at {w : World} {a : Addr} {ks : List NestedKey} {kv vv : List V} (r : FD0 w H a ks kv vv) (e : ∀ o, H a = some o → H' a = some o) : FD0 w H' a ks kv vv := by
  obtain ⟨o, h1, h2⟩ := r
  exact ⟨o, e _ h1, h2⟩
theorem FD.pr {w : World} {a : Addr} {ks : List NestedKey} {kv vv : List V} (x : Pres ι h H ι' h' H') (r : FD w ι H a ks kv vv) : FD w ι' H' a ks kv vv := by
  obtain ⟨⟨o, h1, h2⟩, n⟩ := r
  exact ⟨⟨o, (x.fz _ _ h1 n).1, h2⟩, (x.fz _ _ h1 n).2⟩
theorem FS.pr {a : Addr} {vs : List V} (x : Pres ι h H ι' h' H') (r : FS K ι H a vs) : FS K ι' H' a vs := by
  rcases r with ⟨r, n⟩ | r
  · exact .inl (Rd.pr x r n)
  · exact .inr r
theorem FT.pr {a : Addr} {vs : List V} (x : Pres ι h H ι' h' H') (r : FT K ι H a vs) : FT K ι' H' a vs := by
  rcases r with ⟨r, n⟩ | r
  · exact .inl (Rd.pr x r n)
  · exact .inr r
theorem SqL.of0 {a : Addr} {vs : List V} (r : SqL K (fun _ => none) a vs) : SqL K H a vs := by
  rcases r with (r | ⟨o, r⟩) | r
  · cases r
  · cases r
  · exact .inr r
theorem SqT.of0 {a : Addr} {vs : List V} (r : SqT K (fun _ => none) a vs) : SqT K H a vs := by
  rcases r with (r | ⟨o, r⟩) | r
  · cases r
  · cases r
  · exact .inr r
theorem FS.sq {a : Addr} {vs : List V} (r : FS K ι H a vs) : SqL K H a vs := by
  rcases r with ⟨r, _⟩ | r
  · exact .inl r
  · exact SqL.of0 r
theorem FT.sq {a : Addr} {vs : List V} (r : FT K ι H a vs) : SqT K H a vs := by
  rcases r with ⟨r, _⟩ | r
  · exact .inl r
  · exact SqT.of0 r
mutual
theorem Rep.pr (x : Pres ι h H ι' h' H') : ∀ {d : D} {v : V}, Rep K ι H d v → Rep K ι' H' d v
  | _, _, .non => .non
  | _, _, .bl b => .bl b
  | _, _, .int i => .int i
  | _, _, .str s => .str s
  | _, _, .tup f r => .tup (f.pr x) (RepL.pr x r)
  | _, _, .lst f r => .lst (f.pr x) (RepL.pr x r)
  | _, _, .scr f r => .scr (f.pr x) (RepL.pr x r)
  | _, _, .ins f n k r => .ins (f.pr x) n k (RepL.pr x r)
  | _, _, .cls n => .cls n
  | _, _, .exc f n k r => .exc (f.pr x) n k (RepL.pr x r)
  | _, _, .fnv x => .fnv x
  | _, _, .dct f k r => .dct (f.pr x) (RepL.pr x k) (RepL.pr x r)
  | _, _, .ref e => (x.pre _ _ e).elim .ref fun q => .dead q.1
  | _, _, .dead e => (x.pre _ _ e).elim .dead fun q => .dead q.1
theorem RepL.pr (x : Pres ι h H ι' h' H') : ∀ {ds : List D} {vs : List V}, RepL K ι H ds vs → RepL K ι' H' ds vs
  | _, _, .nil => .nil
  | _, _, .cons r t => .cons (Rep.pr x r) (RepL.pr x t)
end
theorem TabE.pr {P : Addr} {q : Str} (x : Pres ι h H ι' h' H') (e : H' P = H P) (r : TabE ι H P q) : TabE ι' H' P q := by
  obtain ⟨ps, w, t, r⟩ := r
  refine ⟨ps, by rw [e]; exact w, t, fun pos cv z => ?_⟩
  obtain ⟨c, e1, e2, e3⟩ := r pos cv z
  exact ⟨c, e1, (x.fz _ _ e2 e3).1, (x.fz _ _ e2 e3).2⟩
theorem noC_lst {vs : List V} : NoC (.lst vs) := fun c q z => by unfold LamX.CodeO at z; cases z
theorem Rep.ext {d : D} {v : V} (x : Ext ι h H ι' h' H') (r : Rep K ι H d v) : Rep K ι' H' d v := r.pr x.pres
theorem RepL.ext {ds : List D} {vs : List V} (x : Ext ι h H ι' h' H') (r : RepL K ι H ds vs) : RepL K ι' H' ds vs := r.pr x.pres
theorem RE.pr {e : En} {σ : St} (x : Pres ι h H ι' h' H') (r : RE K ι e σ H) : RE K ι' e σ H' := ⟨r.len, fun i d q => let ⟨v, a, b⟩ := r.get i d q; ⟨v, a, b.pr x⟩⟩
theorem RE.ext {e : En} {σ : St} (x : Ext ι h H ι' h' H') (r : RE K ι e σ H) : RE K ι' e σ H' := r.pr x.pres
theorem RepL.length : ∀ {ds : List D} {vs : List V}, RepL K ι H ds vs → ds.length = vs.length
  | _, _, .nil => rfl
  | _, _, .cons _ t => by rw [List.length_cons, List.length_cons, RepL.length t]
theorem RepL.get : ∀ {ds : List D} {vs : List V} {i : Nat} {d : D}, RepL K ι H ds vs → ds[i]? = some d → ∃ v, vs[i]? = some v ∧ Rep K ι H d v
  | _, _, _, _, .nil, e => by simp at e
  | _, _, 0, _, .cons r _, e => by simp at e; subst e; exact ⟨_, rfl, r⟩
  | _, _, i + 1, d, .cons _ t, e => by
    obtain ⟨v, a, b⟩ := RepL.get (i := i) (d := d) t (by simpa using e)
    exact ⟨v, by simpa using a, b⟩
theorem RepL.getV : ∀ {ds : List D} {vs : List V} {i : Nat} {v : V}, RepL K ι H ds vs → vs[i]? = some v → ∃ d, ds[i]? = some d ∧ Rep K ι H d v
  | _, _, _, _, .nil, e => by simp at e
  | _, _, 0, _, .cons r _, e => by simp at e; subst e; exact ⟨_, rfl, r⟩
  | _, _, i + 1, v, .cons _ t, e => by
    obtain ⟨d, a, b⟩ := RepL.getV (i := i) (v := v) t (by simpa using e)
    exact ⟨d, by simpa using a, b⟩
theorem RepL.append : ∀ {ds es : List D} {vs ws : List V}, RepL K ι H ds vs → RepL K ι H es ws → RepL K ι H (ds ++ es) (vs ++ ws)
  | _, _, _, _, .nil, s => s
  | _, _, _, _, .cons r t, s => .cons r (RepL.append t s)
theorem RepL.set {d : D} {v : V} (r : Rep K ι H d v) : ∀ {ds : List D} {vs : List V} (i : Nat), RepL K ι H ds vs → RepL K ι H (ds.set i d) (vs.set i v)
  | _, _, _, .nil => .nil
  | _, _, 0, .cons _ t => .cons r t
  | _, _, i + 1, .cons q t => .cons q (RepL.set r i t)
theorem RepL.take : ∀ {ds : List D} {vs : List V} (n : Nat), RepL K ι H ds vs → RepL K ι H (ds.take n) (vs.take n)
  | _, _, 0, _ => .nil
  | _, _, _ + 1, .nil => .nil
  | _, _, n + 1, .cons r t => .cons r (RepL.take n t)
theorem RepL.drop : ∀ {ds : List D} {vs : List V} (n : Nat), RepL K ι H ds vs → RepL K ι H (ds.drop n) (vs.drop n)
  | _, _, 0, r => r
  | _, _, _ + 1, .nil => .nil
  | _, _, n + 1, .cons _ t => RepL.drop n t
/-- a new object, not a cell -/
theorem Ext.new {p : Addr} {o : HO} (hp : H p = none) : Ext ι h H ι h (upd H p o) :=
  ⟨fun _ _ e => .inl e, fun a u e _ => by rw [upd_ne (ne_of_none e hp)]; exact e, fun _ q => .inl q, fun _ q => .inl q, fun _ _ e => e, rfl⟩
end
end Ev
/-! EvB: readings by results, expressions. -/
namespace Ev
open PySem PySem.Spec L2
variable [TheW]

section
variable {K : PySem.W.Frag} {ι ι' ι1 : Io} {h h' h1 : Hs} {H H' H1 : Hp} {e : En} {σ : St}
theorem RH.own_some (r : RH K ι h H) {a : Addr} (o : Own ι a) : ∃ u, H a = some u := by
  rcases o with ⟨n, q⟩ | o
  rotate_left
  · exact (r.gs a o).imp fun _ q => q.1
  have hn : n < h.length := by
    rw [← r.len]
    exact (List.getElem?_eq_some_iff.mp q).1
  cases z : h[n] with
  | dead =>
    have := r.dead n (by rw [List.getElem?_eq_getElem hn, z])
    rw [q] at this; cases this
  | live o =>
    obtain ⟨a', q', w, _⟩ := r.cell n o (.inl (by rw [List.getElem?_eq_getElem hn, z]))
    rw [q] at q'; cases q'
    cases o with
    | lst ds => obtain ⟨vs, w, _⟩ := w; exact ⟨_, w⟩
    | ins c ks ds => obtain ⟨C, dx, fs, w, _⟩ := w; exact ⟨_, w⟩
    | dct ks ds => obtain ⟨kv, vv, ⟨o, w, _⟩, _⟩ := w; exact ⟨_, w⟩
    | tbl P q => obtain ⟨rfl, ps, w, _⟩ := w; exact ⟨_, w⟩
  | lock o =>
    obtain ⟨a', q', w, _⟩ := r.cell n o (.inr (by rw [List.getElem?_eq_getElem hn, z]))
    rw [q] at q'; cases q'
    cases o with
    | lst ds => obtain ⟨vs, w, _⟩ := w; exact ⟨_, w⟩
    | ins c ks ds => obtain ⟨C, dx, fs, w, _⟩ := w; exact ⟨_, w⟩
    | dct ks ds => obtain ⟨kv, vv, ⟨o, w, _⟩, _⟩ := w; exact ⟨_, w⟩
    | tbl P q => obtain ⟨rfl, ps, w, _⟩ := w; exact ⟨_, w⟩
theorem RH.not_own (r : RH K ι h H) {p : Addr} (hp : H p = none) : ¬ Own ι p := fun o => by
  obtain ⟨u, q⟩ := r.own_some o
  rw [hp] at q; cases q
theorem Ext.none_of (x : Ext ι h H ι' h' H') (R : RH K ι' h' H') {p : Addr} (hp : H' p = none) : H p = none := by
  cases z : H p with
  | none => rfl
  | some u =>
    by_cases m : Mt ι h p
    · obtain ⟨n, q, _⟩ := m
      rcases x.pre n _ q with y | ⟨_, y⟩
      · obtain ⟨w, y⟩ := R.own_some (.inl ⟨_, y⟩)
        rw [hp] at y; cases y
      · obtain ⟨_, ⟨o, y⟩, _⟩ := y p rfl
        rw [hp] at y; cases y
    · rw [x.frame p u z m] at hp; cases hp
theorem ORep.ext {a : Addr} {o : O} (x : Ext ι h H ι' h' H') (e : H' a = H a) (r : ORep K ι H a o) : ORep K ι' H' a o := by
  cases o with
  | lst ds => obtain ⟨vs, w, t⟩ := r; exact ⟨vs, by rw [e]; exact w, t.ext x⟩
  | ins c ks ds => obtain ⟨C, dx, fs, w, n, k, t⟩ := r; exact ⟨C, dx, fs, by rw [e]; exact w, n, k, t.ext x⟩
  | dct ks ds => obtain ⟨kv, vv, f, k, t⟩ := r; exact ⟨kv, vv, f.at (fun o z => by rw [e]; exact z), k.ext x, t.ext x⟩
  | tbl P q => obtain ⟨rfl, r⟩ := r; exact ⟨rfl, r.pr x.pres e⟩
theorem RH.new (r : RH K ι h H) {p : Addr} {u : HO} (hp : H p = none) : RH K ι h (upd H p u) := by
  refine ⟨r.len, fun a m => ?_, r.gd, r.dead, fun n o q => ?_, r.inj⟩
  · obtain ⟨w, q, nc⟩ := r.gs a m
    exact ⟨w, by rw [upd_ne (ne_of_none q hp)]; exact q, nc⟩
  obtain ⟨a, qa, w, b⟩ := r.cell n o q
  have hne : a ≠ p := fun z => by
    obtain ⟨u, s⟩ := r.own_some (.inl ⟨n, qa⟩)
    rw [z, hp] at s; cases s
  exact ⟨a, qa, w.ext (Ext.new (h := h) hp) (upd_ne hne), b⟩
structure Rl (K : PySem.W.Frag) (ι : Io) (e : En) (h : Hs) (σ : St) (H : Hp) : Prop where
  rh : RH K ι h H
  re : RE K ι e σ H
theorem Rl.new (r : Rl K ι e h σ H) {p : Addr} {u : HO} (hp : H p = none) : Rl K ι e h σ (upd H p u) := ⟨r.rh.new hp, r.re.ext (Ext.new (h := h) hp)⟩

/-- what is wanted of a result -/
def Kg {α β : Type} (RR : Io → Hp → α → β → Prop) (K : PySem.W.Frag) (ι : Io) (h : Hs) (H : Hp) (e : En) (σ : St) (r : Res α) (Q : β → Hp → Prop) : Prop := match r with
  | .ok a h' => ∀ ι' H' b, Ext ι h H ι' h' H' → Rl K ι' e h' σ H' → RR ι' H' a b → Q b H'
  | _ => False
def RB (_ : Io) (_ : Hp) (a b : Bool) : Prop := a = b
abbrev Kd (K : PySem.W.Frag) := Kg (Rep K) K
abbrev Kb (K : PySem.W.Frag) := Kg RB K
abbrev Ka (K : PySem.W.Frag) := Kg (RepL K) K
def rdE (K : PySem.W.Frag) (d : Den) : TE := fun σ H Q => ∃ ι e h, Rl K ι e h σ H ∧ Kd K ι h H e σ (d e h) Q
def rdT (K : PySem.W.Frag) (d : DenT) : TT := fun σ H Q => ∃ ι e h, Rl K ι e h σ H ∧ Kb K ι h H e σ (d e h) Q
def rdA (K : PySem.W.Frag) (d : DenA) : TA := fun σ H Q => ∃ ι e h, Rl K ι e h σ H ∧ Ka K ι h H e σ (d e h) Q

section
variable {α β γ δ : Type} {RR : Io → Hp → α → β → Prop} {RR' : Io → Hp → γ → δ → Prop} {r : Res α} {f : α → Hs → Res γ} {Q : δ → Hp → Prop}
theorem Kg.after {r : Res γ} (k : Kg RR' K ι h H e σ r Q) (x : Ext ι h H ι1 h1 H1) : Kg RR' K ι1 h1 H1 e σ r Q := by
  cases r with
  | ok a h' => exact fun ι' H' b y R rr => k ι' H' b (x.trans y) R rr
  | err _ _ => exact k
  | bad => exact k
theorem Kg.imp {r : Res γ} {Q' : δ → Hp → Prop} (k : Kg RR' K ι h H e σ r Q) (i : ∀ b H, Q b H → Q' b H) : Kg RR' K ι h H e σ r Q' := by
  cases r with
  | ok a h' => exact fun ι' H' b y R rr => i _ _ (k ι' H' b y R rr)
  | err _ _ => exact k
  | bad => exact k
/-- one part, then the rest -/
structure Kn (RR : Io → Hp → α → β → Prop) (RR' : Io → Hp → γ → δ → Prop) (K : PySem.W.Frag) (ι : Io) (h : Hs) (H : Hp) (e : En) (σ : St) (r : Res α) (f : α → Hs → Res γ) (Q : δ → Hp → Prop) (b : β) (H1 : Hp) (a : α) (h1 : Hs) (ι1 : Io) : Prop where
  eq : r = .ok a h1
  x : Ext ι h H ι1 h1 H1
  R : Rl K ι1 e h1 σ H1
  rr : RR ι1 H1 a b
  k : Kg RR' K ι1 h1 H1 e σ (f a h1) Q
theorem Kg.bind (k : Kg RR' K ι h H e σ (r.bind f) Q) : Kg RR K ι h H e σ r fun b H1 => ∃ a h1 ι1, Kn RR RR' K ι h H e σ r f Q b H1 a h1 ι1 := by
  cases r with
  | ok a h' => exact fun ι' H' b y R rr => ⟨a, h', ι', rfl, y, R, rr, k.after y⟩
  | err _ _ => exact k
  | bad => exact k
theorem Kg.here {a : α} {b : β} {Q : β → Hp → Prop} (k : Kg RR K ι h H e σ (.ok a h) Q) (R : Rl K ι e h σ H) (rr : RR ι H a b) : Q b H := k ι H b .refl R rr
theorem Kg.new {a : α} {b : β} {Q : β → Hp → Prop} {p : Addr} {u : HO} (k : Kg RR K ι h H e σ (.ok a h) Q) (R : Rl K ι e h σ H) (hp : H p = none) (rr : RR ι (upd H p u) a b) : Q b (upd H p u) := k ι _ b (.new hp) (R.new hp) rr
end
theorem Rep.newT (R : RH K ι h H) {p : Addr} {ds : List D} {vs : List V} (hp : H p = none) (r : RepL K ι H ds vs) : Rep K ι (upd H p (.tup vs)) (.tup ds) (.ref p) :=
  .tup (.inl ⟨.inl upd_same, R.not_own hp⟩) (r.ext (Ext.new (h := h) hp))
theorem Rep.newL (R : RH K ι h H) {p : Addr} {ds : List D} {vs : List V} (hp : H p = none) (r : RepL K ι H ds vs) : Rep K ι (upd H p (.lst vs)) (.lst ds) (.ref p) :=
  .lst ⟨upd_same, R.not_own hp⟩ (r.ext (Ext.new (h := h) hp))
/-- a list that is to be read: told whole, or a cell -/
def asL (h : Hs) : D → Option (List D)
  | .lst xs => some xs
  | .scr xs => some xs
  | .ref m => lstAt h m
  | _ => none
theorem lstAt_rep (R : RH K ι h H) {m : Nat} {xs : List D} {v : V} (q : lstAt h m = some xs) (r : Rep K ι H (.ref m) v) : ∃ a vs, v = .ref a ∧ H a = some (.lst vs) ∧ RepL K ι H xs vs ∧ ι.c[m]? = some (some a) := by
  unfold lstAt at q
  have hc : h[m]? = some (.live (.lst xs)) ∨ h[m]? = some (.lock (.lst xs)) := by
    revert q
    split
    · intro q; cases q; left; assumption
    · intro q; cases q; right; assumption
    · intro q; cases q
  obtain ⟨a, qa, ⟨vs, w, t⟩, b⟩ := R.cell m _ hc
  cases r with
  | ref e =>
    rw [qa] at e; cases e
    exact ⟨a, vs, rfl, w, t, qa⟩
  | dead e => rw [qa] at e; cases e
theorem cellAt_rep (R : RH K ι h H) {m : Nat} {o : O} {v : V} (q : cellAt h m = some o) (r : Rep K ι H (.ref m) v) : ∃ a, v = .ref a ∧ ι.c[m]? = some (some a) ∧ ORep K ι H a o ∧ o.und m = true := by
  unfold cellAt at q
  have hc : h[m]? = some (.live o) ∨ h[m]? = some (.lock o) := by
    revert q
    split
    · intro q; cases q; left; assumption
    · intro q; cases q; right; assumption
    · intro q; cases q
  obtain ⟨a, qa, w, b⟩ := R.cell m _ hc
  cases r with
  | ref e => rw [qa] at e; cases e; exact ⟨a, rfl, qa, w, b⟩
  | dead e => rw [qa] at e; cases e
theorem asL_rep (R : RH K ι h H) {d : D} {xs : List D} {v : V} (q : asL h d = some xs) (r : Rep K ι H d v) : ∃ a vs, v = .ref a ∧ SqL K H a vs ∧ RepL K ι H xs vs := by
  cases d <;> try cases q
  · cases r with
    | lst f t => exact ⟨_, _, rfl, .of f.1, t⟩
  · cases r with
    | scr f t => exact ⟨_, _, rfl, f.sq, t⟩
  · obtain ⟨a, vs, e, w, t, _⟩ := lstAt_rep R q r
    exact ⟨a, vs, e, .of w, t⟩
/-- .. one that the abstract heap tracks -/
def asM (h : Hs) : D → Option (List D)
  | .lst xs => some xs
  | .ref m => lstAt h m
  | _ => none
theorem asM_rep (R : RH K ι h H) {d : D} {xs : List D} {v : V} (q : asM h d = some xs) (r : Rep K ι H d v) : ∃ a vs, v = .ref a ∧ H a = some (.lst vs) ∧ RepL K ι H xs vs := by
  cases d <;> try cases q
  · cases r with
    | lst f t => exact ⟨_, _, rfl, f.1, t⟩
  · obtain ⟨a, vs, e, w, t, _⟩ := lstAt_rep R q r
    exact ⟨a, vs, e, w, t⟩
end

/-! ### weaker readings -/
section
variable {X : Cx}
theorem _root_.L2.PE.wkn {e : Expr} {t t' : TE} (p : PE X e t) (i : ∀ σ H Q, t' σ H Q → t σ H Q) : PE X e t' := ⟨fun pins s σ H Q I q => p.run pins s σ H Q I (i _ _ _ q)⟩
theorem _root_.L2.PT.wkn {e : Expr} {t t' : TT} (p : PT X e t) (i : ∀ σ H Q, t' σ H Q → t σ H Q) : PT X e t' := ⟨fun pins s σ H Q I q => p.run pins s σ H Q I (i _ _ _ q)⟩
theorem _root_.L2.PA.wkn {e : List Expr} {t t' : TA} (p : PA X e t) (i : ∀ σ H Q, t' σ H Q → t σ H Q) : PA X e t' := ⟨fun pos pins s σ H Q I q => p.run pos pins s σ H Q I (i _ _ _ q)⟩

/-! ### names, constants -/
def dC (d : D) : Den := fun _ h => .ok d h
def dVar (i : Nat) : Den := fun e h => match e[i]? with
  | some (some d) => .ok d h
  | _ => .bad
theorem s_int {i j pos} : PE X (.Constant (.int i) j pos) (rdE X.K (dC (.int i))) := pe_int.wkn fun _ _ _ ⟨_, _, _, R, k⟩ => k.here R (.int i)
theorem s_bl {i j pos} : PE X (.Constant (.bool i) j pos) (rdE X.K (dC (.bl i))) := pe_bl.wkn fun _ _ _ ⟨_, _, _, R, k⟩ => k.here R (.bl i)
theorem s_non {j pos} : PE X (.Constant .none j pos) (rdE X.K (dC .non)) := pe_non.wkn fun _ _ _ ⟨_, _, _, R, k⟩ => k.here R .non
theorem s_str {i j pos} : PE X (.Constant (.str i) j pos) (rdE X.K (dC (.str i))) := pe_str.wkn fun _ _ _ ⟨_, _, _, R, k⟩ => k.here R (.str i)
theorem s_var {i : Nat} {x : Str} {pos : Pos} (hN : X.N[i]? = some x) (hv : Vis X.env.scope x) (hd : (x == ("__debug__" : Str)) = false) (hcd : (x == ("__classdict__" : Str)) = false) : PE X (.Name x pos) (rdE X.K (dVar i)) := by
  refine (pe_var hN hv hd hcd).wkn fun σ H Q ⟨ι, e, h, R, k⟩ => ?_
  unfold dVar at k
  cases q : e[i]? with
  | none => rw [q] at k; exact k.elim
  | some o =>
    cases o with
    | none => rw [q] at k; exact k.elim
    | some d =>
      rw [q] at k
      obtain ⟨v, a, b⟩ := R.re.get i d q
      exact ⟨v, a, k.here R b⟩

/-! ### argument lists, tuples, lists -/
def aNil : DenA := fun _ h => .ok [] h
def aCons (a : Den) (r : DenA) : DenA := fun e h => (a e h).bind fun x h => (r e h).bind fun xs h => .ok (x :: xs) h
theorem s_nil : PA X [] (rdA X.K aNil) := pa_nil.wkn fun _ _ _ ⟨_, _, _, R, k⟩ => k.here R .nil
theorem s_cons {a : Expr} {es : List Expr} {da : Den} {dr : DenA} (ha : PE X a (rdE X.K da)) (hr : PA X es (rdA X.K dr)) (hs : starEach (a :: es) X.env = (false, eval a X.env) :: starEach es X.env) : PA X (a :: es) (rdA X.K (aCons da dr)) := by
  refine (pa_cons ha hr hs).wkn fun σ H Q ⟨ι, e, h, R, k⟩ => ⟨ι, e, h, R, (Kg.bind k).imp fun v H1 ⟨d, h1, ι1, n1⟩ => ⟨ι1, e, h1, n1.R, (Kg.bind n1.k).imp fun vs H2 ⟨ds, h2, ι2, n2⟩ => ?_⟩⟩
  exact n2.k.here n2.R (.cons (n1.rr.ext n2.x) n2.rr)
def dTup (a : DenA) : Den := fun e h => (a e h).bind fun xs h => if xs.length ≤ sizeLine then .ok (.tup xs) h else .bad
def dLst (a : DenA) : Den := fun e h => (a e h).bind fun xs h => if xs.length ≤ sizeLine then .ok (.lst xs) h else .bad
theorem s_tup {es : List Expr} {x1 pos} {da : DenA} (ha : PA X es (rdA X.K da)) : PE X (.Tuple es x1 pos) (rdE X.K (dTup da)) := by
  refine (pe_tup ha).wkn fun σ H Q ⟨ι, e, h, R, k⟩ => ⟨ι, e, h, R, (Kg.bind k).imp fun vs H1 ⟨ds, h1, ι1, n1⟩ => ?_⟩
  have hk := n1.k
  by_cases hz : ds.length ≤ sizeLine
  · rw [if_pos hz] at hk
    exact ⟨by rw [← n1.rr.length]; exact hz, fun p hp => hk.new n1.R hp (.newT n1.R.rh hp n1.rr)⟩
  · rw [if_neg hz] at hk; exact hk.elim
theorem s_lst {es : List Expr} {pos} {da : DenA} (ha : PA X es (rdA X.K da)) : PE X (.List es pos) (rdE X.K (dLst da)) := by
  refine (pe_lst ha).wkn fun σ H Q ⟨ι, e, h, R, k⟩ => ⟨ι, e, h, R, (Kg.bind k).imp fun vs H1 ⟨ds, h1, ι1, n1⟩ => ?_⟩
  have hk := n1.k
  by_cases hz : ds.length ≤ sizeLine
  · rw [if_pos hz] at hk
    exact ⟨by rw [← n1.rr.length]; exact hz, fun p hp => hk.new n1.R hp (.newL n1.R.rh hp n1.rr)⟩
  · rw [if_neg hz] at hk; exact hk.elim
end
end Ev
/-! EvBm: a dict whose keys are of any sort, nested: the store. -/
namespace Ev
open PySem PySem.Spec L2
section
variable {prog : Program} {w : World} {A : Around} {F : Value → Shared → Prop} {s : Shared} {d : Addr} {o : Obj} {es : Array DictEntry} {ep : Nat} {xs : List Ent} {k : NestedKey} {y : Value}
def AtM (xs : List Ent) (k : NestedKey) (j : Nat) : Prop := ∃ p, xs[j]? = some (k, p)
theorem atM_uniq (nd : (xs.map (·.1)).Nodup) {i j : Nat} (a : AtM xs k i) (b : AtM xs k j) : i = j := by
  obtain ⟨p, a⟩ := a
  obtain ⟨q, b⟩ := b
  have a' : (xs.map (·.1))[i]? = some k := by rw [List.getElem?_map, a]; rfl
  have b' : (xs.map (·.1))[j]? = some k := by rw [List.getElem?_map, b]; rfl
  exact (List.getElem?_inj (List.getElem?_eq_some_iff.mp a').1 nd).mp (a'.trans b'.symm)
theorem entM_at (he : es.toList = xs.map (entM w)) (j : Nat) : es[j]? = xs[j]?.map (entM w) := by
  rw [← Array.getElem?_toList, he, List.getElem?_map]
theorem quietM {k' : NestedKey} {v : Value} {Q : Bool → Shared → Prop} (h : NestedIs s.heap k' v) (l : k'.depth ≤ 8) (q : Q true s) : wpAny (model prog w) A (eqIsQuiet 8 v) Q F s := quiet_key k' v 8 s h l A F Q q
theorem tellM {stored : List Value} {Q : Bool → Shared → Prop} (hk : NestedIs s.heap k y) (h8 : k.depth ≤ 8) (hst : ∀ v ∈ stored, ∃ k', NestedIs s.heap k' v ∧ k'.depth ≤ 8) (q : Q false s) : wpAny (model prog w) A (tableMayTell y stored) Q F s := by
  unfold tableMayTell
  split
  · exact wpAny_pure q
  · refine wpAny_bind (quietM hk h8 ?_)
    simp only [Bool.not_true, Bool.false_eq_true, if_false]
    refine wpAny_bind ?_
    refine wpAny_forIn_list _ (fun l r z => z = s ∧ r = (none, ()) ∧ ∀ v ∈ l, ∃ k', NestedIs s.heap k' v ∧ k'.depth ≤ 8) _ ?_ ?_ _ _ ⟨rfl, rfl, hst⟩
    · rintro v l r z ⟨rfl, rfl, hl⟩
      obtain ⟨k', e1, e2⟩ := hl v List.mem_cons_self
      refine wpAny_bind (quietM e1 e2 ?_)
      simp only [Bool.not_true, Bool.false_eq_true, if_false]
      exact wpAny_pure ⟨rfl, rfl, fun u hu => hl u (List.mem_cons_of_mem _ hu)⟩
    · rintro r z ⟨rfl, rfl, _⟩
      exact wpAny_pure q
theorem tell_if {α : Type} {c : Bool} {stored : List Value} {G : Bool → Sem α} {Q : α → Shared → Prop} (hk : NestedIs s.heap k y) (h8 : k.depth ≤ 8) (hst : ∀ v ∈ stored, ∃ k', NestedIs s.heap k' v ∧ k'.depth ≤ 8) (q : wpAny (model prog w) A (G false) Q F s) : wpAny (model prog w) A (if c = true then (pure false >>= G) else (tableMayTell y stored >>= G)) Q F s := by
  cases c
  · exact wpAny_bind (tellM hk h8 hst q)
  · exact wpAny_bind (wpAny_pure q)
/-- where a walk over the places with the hash stands -/
def SkM (w : World) (es : Array DictEntry) (k : NestedKey) (l : List Nat) (i : Nat) : Prop := l = (List.range' i (es.size - i)).filter (fun i => (es[i]?.map (·.hash)) == some (k.hash w)) ∧ i ≤ es.size
theorem sk_step (he : es.toList = xs.map (entM w)) {x i : Nat} {l : List Nat} (h : SkM w es k (x :: l) i) : i ≤ x ∧ x < es.size ∧ SkM w es k l (x + 1) ∧ ∀ j, i ≤ j → j < x → ¬ AtM xs k j := by
  obtain ⟨h1, h2⟩ := h
  obtain ⟨a1, a2, _, a4, a5⟩ := filter_range'_cons _ _ _ _ _ h1.symm
  refine ⟨a1, by omega, ⟨by rw [a5]; congr 2; omega, by omega⟩, fun j b1 b2 ⟨p, hp⟩ => ?_⟩
  have := a4 j b1 b2
  rw [entM_at he, hp] at this
  simp [entM] at this
theorem sk_end (he : es.toList = xs.map (entM w)) {i : Nat} (h : SkM w es k [] i) : ∀ j, i ≤ j → ¬ AtM xs k j := fun j b1 ⟨p, hp⟩ => by
  obtain ⟨h1, h2⟩ := h
  have sz : es.size = xs.length := by rw [← Array.length_toList, he, List.length_map]
  have hj := (List.getElem?_eq_some_iff.mp hp).1
  have := List.filter_eq_nil_iff.mp h1.symm j (List.mem_range'_1.mpr ⟨b1, by omega⟩)
  rw [entM_at he, hp] at this
  simp [entM] at this
theorem dfind_m {Q : Option Nat → Shared → Prop} (hu : A.units + 8 < cLine) (hk : NestedIs s.heap k y) (h8 : k.depth ≤ 8) (hy : ∀ x t, y ≠ .str x t) (ho : s.heap.get? d = some o) (hd : o.data = .dict es ep) (he : es.toList = xs.map (entM w))
    (his : ∀ x ∈ xs, NestedIs s.heap x.1 x.2.1 ∧ x.1.depth ≤ 8) (nd : (xs.map (·.1)).Nodup) (no : (∀ j, ¬ AtM xs k j) → Q none s) (yes : ∀ j, AtM xs k j → Q (some j) s) : wpAny (model prog w) A (dictFind d y (k.hash w)) Q F s := by
  have sz : es.size = xs.length := by rw [← Array.length_toList, he, List.length_map]
  have hmem : ∀ e ∈ es, ∃ x ∈ xs, e = entM w x := fun e hin => by
    have hin : e ∈ xs.map (entM w) := he ▸ Array.mem_toList_iff.mpr hin
    obtain ⟨x, hx, rfl⟩ := List.mem_map.mp hin
    exact ⟨x, hx, rfl⟩
  have hst : ∀ v ∈ (placesWithHash es.size (fun i => es[i]?.map (·.hash)) (k.hash w)).filterMap (fun i => es[i]?.map (·.key)), ∃ k', NestedIs s.heap k' v ∧ k'.depth ≤ 8 := fun v hv => by
    obtain ⟨i, _, hi⟩ := List.mem_filterMap.mp hv
    cases q : es[i]? with
    | none => rw [q] at hi; cases hi
    | some e =>
      rw [q] at hi
      obtain rfl : e.key = v := by simpa using hi
      obtain ⟨x, hx, rfl⟩ := hmem e (Array.mem_of_getElem? q)
      exact ⟨x.1, his x hx⟩
  have start : SkM w es k (placesWithHash es.size (fun i => es[i]?.map (·.hash)) (k.hash w)) 0 := ⟨by rw [placesWithHash, List.range_eq_range', Nat.sub_zero], Nat.zero_le _⟩
  have there : ∀ x, x < es.size → ∃ k' v u, xs[x]? = some (k', v, u) ∧ es[x]? = some ⟨k'.hash w, v, u⟩ ∧ NestedIs s.heap k' v ∧ k'.depth ≤ 8 := fun x hx => by
    obtain ⟨⟨k', v, u⟩, q⟩ : ∃ z, xs[x]? = some z := ⟨xs[x]'(by omega), List.getElem?_eq_getElem _⟩
    exact ⟨k', v, u, q, by rw [entM_at he, q]; rfl, his _ (List.mem_of_getElem? q)⟩
  have same : ∀ {k' : NestedKey} {v : Value} {R : Bool → Shared → Prop}, NestedIs s.heap k' v → k'.depth ≤ 8 → R (decide (k' = k)) s → wpAny (model prog w) A (eqBool v y) R F s := fun {k' v R} e1 e2 r =>
    eqAt_key k' k A s _ _ e1 hk (by omega) _ _ _ _ (by rw [← NestedKey.decide_eq]; exact r)
  have hany : ∀ a, y = .ref a → ¬ (es.any fun e => e.key == Value.ref a && e.hash != k.hash w) = true := fun a ea => by
    rw [← Array.any_toList, List.any_eq_true]
    rintro ⟨e, hin, hc⟩
    obtain ⟨x, hx, rfl⟩ := hmem e (Array.mem_toList_iff.mp hin)
    simp only [entM, Bool.and_eq_true, beq_iff_eq, bne_iff_ne, ne_eq] at hc
    obtain ⟨c1, c2⟩ := hc
    have := (his x hx).1
    rw [c1, ← ea] at this
    exact c2 (by rw [NestedIs.inj _ _ _ this hk])
  have plain : wpAny (model prog w) A (dictWalkPlain d y (k.hash w) es (placesWithHash es.size (fun i => es[i]?.map (·.hash)) (k.hash w))) Q F s := by
    unfold dictWalkPlain
    refine wpAny_bind ?_
    refine wpAny_forIn_list _ (fun l r z => z = s ∧ r = (none, ()) ∧ ∃ i, SkM w es k l i ∧ ∀ j, j < i → ¬ AtM xs k j) _ ?_ ?_ _ _ ⟨rfl, rfl, 0, start, fun j hj => absurd hj (Nat.not_lt_zero _)⟩
    · rintro x l r z ⟨rfl, rfl, i, sk, hn⟩
      obtain ⟨a1, a2, a3, a4⟩ := sk_step he sk
      obtain ⟨k', v, u, q1, q2, q3, q4⟩ := there x a2
      have hn' : k' ≠ k → ∀ j, j < x + 1 → ¬ AtM xs k j := fun ne j hj at_ => by
        by_cases c : j < i
        · exact hn j c at_
        · by_cases c2 : j < x
          · exact a4 j (by omega) c2 at_
          · obtain rfl : j = x := by omega
            obtain ⟨p, hp⟩ := at_
            rw [q1] at hp; cases hp; exact ne rfl
      rw [q2]
      dsimp only
      by_cases hh : (k'.hash w == k.hash w) = true
      · rw [if_pos hh]
        refine wpAny_bind (wpAny_dictEpoch ho hd (wpAny_bind (same q3 q4 (wpAny_bind (wpAny_dictEpoch ho hd ?_)))))
        show wpAny _ _ (if (ep != ep) = true then _ else _) _ F _
        rw [if_neg (by simp)]
        by_cases kk : k' = k
        · rw [decide_eq_true kk]
          subst kk
          exact wpAny_bind (wpAny_rule (wpAny_pure (wpAny_pure (yes x ⟨_, q1⟩))))
        · rw [decide_eq_false kk]
          exact wpAny_bind (wpAny_rule (wpAny_pure ⟨rfl, rfl, x + 1, a3, hn' kk⟩))
      · rw [if_neg hh]
        exact wpAny_pure ⟨rfl, rfl, x + 1, a3, hn' fun e => hh (by rw [e]; simp)⟩
    · rintro r z ⟨rfl, rfl, i, sk, hn⟩
      refine wpAny_pure (no fun j at_ => ?_)
      by_cases c : j < i
      · exact hn j c at_
      · exact sk_end he sk j (by omega) at_
  unfold dictFind
  try with_reducible refine wpAny_holding ?_
  refine wpAny_bind (wpAny_dictEntries ho hd ?_)
  have hy' : (∃ a, y = .ref a) ∨ carriedByValue y = true := by
    cases y <;> first | exact .inr rfl | exact .inl ⟨_, rfl⟩
  by_cases hall : ((y :: (placesWithHash es.size (fun i => es[i]?.map (·.hash)) (k.hash w)).filterMap (fun i => es[i]?.map (·.key))).all carriedByValue) = true
  · cases y <;> first | exact absurd rfl (hy _ _) | (dsimp only; rw [if_pos hall]; exact plain)
  cases y <;> first | exact absurd rfl (hy _ _) | skip
  all_goals
    dsimp only
    rw [if_neg hall]
    try rw [if_neg (hany _ rfl)]
    refine tell_if hk h8 hst ?_
    focus (
      rw [if_neg (by simp)]
      refine wpAny_bind ?_
      refine wpAny_forIn_list _ (fun l r z => z = s ∧ ∃ i hit, r = (none, hit) ∧ SkM w es k l i ∧ ((hit = none ∧ ∀ j, j < i → ¬ AtM xs k j) ∨ ∃ j, hit = some j ∧ j < i ∧ AtM xs k j)) _ ?_ ?_ _ _ ⟨rfl, 0, none, rfl, start, .inl ⟨rfl, fun j hj => absurd hj (Nat.not_lt_zero _)⟩⟩
      · rintro x l r z ⟨rfl, i, hit, rfl, sk, hH⟩
        obtain ⟨a1, a2, a3, a4⟩ := sk_step he sk
        obtain ⟨k', v, u, q1, q2, q3, q4⟩ := there x a2
        have hHx : (hit = none ∧ ∀ j, j < x → ¬ AtM xs k j) ∨ ∃ j, hit = some j ∧ j < x ∧ AtM xs k j := by
          rcases hH with ⟨b1, b2⟩ | ⟨j, b1, b2, b3⟩
          · refine .inl ⟨b1, fun j hj at_ => ?_⟩
            by_cases c : j < i
            · exact b2 j c at_
            · exact a4 j (by omega) hj at_
          · exact .inr ⟨j, b1, by omega, b3⟩
        have stay : k' ≠ k → ((hit = none ∧ ∀ j, j < x + 1 → ¬ AtM xs k j) ∨ ∃ j, hit = some j ∧ j < x + 1 ∧ AtM xs k j) := fun ne => by
          rcases hHx with ⟨b1, b2⟩ | ⟨j, b1, b2, b3⟩
          · refine .inl ⟨b1, fun j hj at_ => ?_⟩
            by_cases c : j < x
            · exact b2 j c at_
            · obtain rfl : j = x := by omega
              obtain ⟨p, hp⟩ := at_
              rw [q1] at hp; cases hp; exact ne rfl
          · exact .inr ⟨j, b1, by omega, b3⟩
        rw [q2]
        dsimp only
        by_cases hh : (k'.hash w == k.hash w) = true
        · rw [if_pos hh]
          refine wpAny_bind (wpAny_dictEpoch ho hd (wpAny_bind (same q3 q4 (wpAny_bind (wpAny_dictEpoch ho hd ?_)))))
          show wpAny _ _ (if (ep != ep) = true then _ else _) _ F _
          rw [if_neg (by simp)]
          by_cases kk : k' = k
          · rw [decide_eq_true kk]
            subst kk
            have at_ : AtM xs k' x := ⟨_, q1⟩
            rcases hHx with ⟨rfl, _⟩ | ⟨j, _, b2, b3⟩
            · first | rw [if_pos rfl] | skip
              simp only [Option.isSome_none, Bool.false_eq_true, if_false]
              first | refine wpAny_bind (wpAny_pure ?_) | skip
              refine wpAny_bind (wpAny_rule ?_)
              split
              · exact wpAny_pure (wpAny_pure (yes x at_))
              · exact wpAny_pure ⟨rfl, x + 1, some x, rfl, a3, .inr ⟨x, rfl, Nat.lt_succ_self x, at_⟩⟩
            · have := atM_uniq nd b3 at_
              omega
          · rw [decide_eq_false kk]
            simp only [Bool.false_eq_true, if_false]
            refine wpAny_bind (wpAny_rule ?_)
            first | rw [if_neg (by simp)] | skip
            first
              | exact wpAny_pure ⟨rfl, x + 1, hit, rfl, a3, stay kk⟩
              | exact wpAny_bind (wpAny_pure (wpAny_pure ⟨rfl, x + 1, hit, rfl, a3, stay kk⟩))
        · rw [if_neg hh]
          exact wpAny_pure ⟨rfl, x + 1, hit, rfl, a3, stay fun e => hh (by rw [e]; simp)⟩
      · rintro r z ⟨rfl, i, hit, rfl, sk, hH⟩
        rcases hH with ⟨rfl, b2⟩ | ⟨j, rfl, _, b3⟩
        · refine wpAny_pure (no fun j at_ => ?_)
          by_cases c : j < i
          · exact b2 j c at_
          · exact sk_end he sk j (by omega) at_
        · exact wpAny_pure (yes j b3))
/-- the store: the key that is there stays -/
def stM : List Ent → NestedKey → Value → Value → List Ent
  | [], k, y, u => [(k, y, u)]
  | x :: xs, k, y, u => if x.1 = k then (x.1, x.2.1, u) :: xs else x :: stM xs k y u
theorem stM_no {u : Value} : ∀ {xs : List Ent}, (∀ j, ¬ AtM xs k j) → stM xs k y u = xs ++ [(k, y, u)]
  | [], _ => rfl
  | x :: xs, h => by
    unfold stM
    rw [if_neg fun e => h 0 ⟨x.2, by rw [← e]; rfl⟩, stM_no fun j ⟨p, hp⟩ => h (j + 1) ⟨p, hp⟩]
    rfl
theorem stM_mod {u : Value} : ∀ {xs : List Ent} {j : Nat}, (xs.map (·.1)).Nodup → AtM xs k j → (xs.map (entM w)).modify j (fun e => { e with val := u }) = (stM xs k y u).map (entM w)
  | [], _, _, ⟨p, hp⟩ => by cases hp
  | x :: xs, 0, _, ⟨p, hp⟩ => by
    cases hp
    unfold stM
    rw [if_pos rfl]
    rfl
  | x :: xs, j + 1, nd, ⟨p, hp⟩ => by
    rw [List.map_cons, List.nodup_cons] at nd
    have hp : xs[j]? = some (k, p) := hp
    unfold stM
    rw [if_neg fun e => nd.1 (by rw [e]; exact List.mem_map.mpr ⟨_, List.mem_of_getElem? hp, rfl⟩)]
    show entM w x :: (xs.map (entM w)).modify j _ = entM w x :: (stM xs k y u).map (entM w)
    rw [stM_mod nd.2 ⟨p, hp⟩]
theorem stM_mem {u : Value} {z : Ent} : ∀ {xs : List Ent}, z ∈ stM xs k y u → z = (k, y, u) ∨ ∃ x ∈ xs, z.1 = x.1 ∧ z.2.1 = x.2.1
  | [], h => .inl (List.mem_singleton.mp h)
  | x :: xs, h => by
    unfold stM at h
    split at h
    · rcases List.mem_cons.mp h with e | h
      · exact .inr ⟨x, List.mem_cons_self .., by rw [e], by rw [e]⟩
      · exact .inr ⟨z, List.mem_cons_of_mem _ h, rfl, rfl⟩
    · rcases List.mem_cons.mp h with e | h
      · exact .inr ⟨x, List.mem_cons_self .., by rw [e], by rw [e]⟩
      · rcases stM_mem h with e | ⟨x', m, e⟩
        · exact .inl e
        · exact .inr ⟨x', List.mem_cons_of_mem _ m, e⟩
theorem stM_keys {u : Value} : ∀ {xs : List Ent}, (xs.map (·.1)).Nodup → ((stM xs k y u).map (·.1)).Nodup ∧ (stM xs k y u).length ≤ xs.length + 1
  | [], _ => ⟨by simp [stM], Nat.le_refl _⟩
  | x :: xs, nd => by
    rw [List.map_cons, List.nodup_cons] at nd
    unfold stM
    split
    · exact ⟨by rw [List.map_cons, List.nodup_cons]; exact nd, by simp⟩
    · rename_i c
      obtain ⟨a, b⟩ := stM_keys (u := u) nd.2
      refine ⟨?_, by simp only [List.length_cons]; omega⟩
      rw [List.map_cons, List.nodup_cons]
      refine ⟨fun m => ?_, a⟩
      obtain ⟨z, mz, e⟩ := List.mem_map.mp m
      rcases stM_mem mz with q | ⟨x', m', q, _⟩
      · rw [q] at e; exact c e.symm
      · exact nd.1 (List.mem_map.mpr ⟨x', m', by rw [← q, e]⟩)
theorem dset_m {u : Value} {Q : Unit → Shared → Prop} (hu : A.units + 8 < cLine) (hk : NestedIs s.heap k y) (h8 : k.depth ≤ 8) (hy : ∀ x t, y ≠ .str x t) (ho : s.heap.get? d = some o) (de : DEntM w o xs) (lt : xs.length < sizeLine) (his : ∀ x ∈ xs, NestedIs s.heap x.1 x.2.1)
    (q : ∀ h' ob, h'.get? d = some ob → DEntM w ob (stM xs k y u) → Heap.SameBut d s.heap h' → Q () { s with heap := h', toks := s.toks + k.draws }) : wpAny (model prog w) A (dictSet d y u) Q F s := by
  obtain ⟨hx, ⟨es, ep, hd, he⟩, nd, ln, dp⟩ := de
  have sz : es.size = xs.length := by rw [← Array.length_toList, he, List.length_map]
  obtain ⟨n1, n2⟩ := stM_keys (k := k) (y := y) (u := u) nd
  have d8 : ∀ z ∈ stM xs k y u, z.1.depth ≤ 8 := fun z hz => by
    rcases stM_mem hz with e | ⟨x, m, e, _⟩
    · rw [e]; exact h8
    · rw [e]; exact dp x m
  unfold dictSet
  try with_reducible refine wpAny_holding ?_
  refine wpAny_bind (pyHash_key _ _ _ _ _ hk (by omega) ?_)
  unfold dictSetHashed
  try with_reducible refine wpAny_holding ?_
  refine wpAny_bind (dfind_m (s := { s with toks := s.toks + k.draws }) hu hk h8 hy ho hd he (fun x hx => ⟨his x hx, dp x hx⟩) nd ?_ ?_)
  · intro hno
    refine wpAny_bind (wpAny_rule (wpAny_updateDictKeys (hz := by omega) (s := { s with toks := s.toks + k.draws }) ho hd (q _ _ (Heap.get?_update_self _ ho (Obj.isFreed_of_dict (Obj.data_mapDictKeys hd _))) ⟨hx.mapDictKeys _, ⟨_, ep + 1, Obj.data_mapDictKeys hd _, ?_⟩, n1, by omega, d8⟩ (Heap.SameBut.update ..))))
    rw [stM_no hno]
    simp [he, entM]
  · intro j at_
    refine wpAny_bind (wpAny_rule (wpAny_bind (wpAny_updateDict (s := { s with toks := s.toks + k.draws }) ho hd (wpAny_point (q _ _ (Heap.get?_update_self _ ho (Obj.isFreed_of_dict (Obj.data_mapDict hd _))) ⟨hx.mapDict _, ⟨_, ep, Obj.data_mapDict hd _, ?_⟩, n1, by omega, d8⟩ (Heap.SameBut.update ..))))))
    have e1 := stM_mod (w := w) (y := y) (u := u) nd at_
    rw [← he] at e1
    obtain ⟨l⟩ := es
    simpa using e1
end
end Ev
/-! EvCa: tuple * 1, tuple * 0, () * k. -/
namespace L2
open PySem PySem.Spec PyProof.Rows
theorem tuple_mulS (l : Addr) (items : Array Value) (n : Nat) (sl : Array (Option Value)) (dd : Option Addr) (x : Int) (u : Tok) (c0 : (decide (x < -(2 ^ 63)) || decide (x ≥ 2 ^ 63)) = false) (c1 : (items.isEmpty || x == 1) = true) :
    Meets (Builtin.«tuple.__mul__» ⟨[.ref l, .int x u], []⟩) (fun _ R s => s.heap.get? l = some { cls := .type "tuple", dict := dd, data := .seq items n, slots := sl } ∧ R (.ok (.ret (Value.ref l))) s) :=
  .of_wp fun prog w A R s h => by
    obtain ⟨hp, g, d, tk, os⟩ := s
    obtain ⟨hl, h⟩ := h
    have f1 := AutoSeq1.idx_int
    wp_walk using wpAny_loadPart' hl
    repeat (first
      | (refine wpAny_ite_false (decide_eq_false (by rw [c0]; exact Bool.false_ne_true)) ?_; wp_walk using wpAny_loadPart' hl)
      | (refine wpAny_ite_true (decide_eq_true c1) ?_; wp_walk using wpAny_loadPart' hl))
    exact ⟨_, rfl, h⟩
theorem tuple_mulE (l : Addr) (items : Array Value) (n : Nat) (sl : Array (Option Value)) (dd : Option Addr) (x : Int) (u : Tok) (c0 : (decide (x < -(2 ^ 63)) || decide (x ≥ 2 ^ 63)) = false) (c1 : (items.isEmpty || x == 1) = false) (c2 : (decide (x ≤ 0) || items.isEmpty) = true) :
    Meets (Builtin.«tuple.__mul__» ⟨[.ref l, .int x u], []⟩) (fun _ R s => s.heap.get? l = some { cls := .type "tuple", dict := dd, data := .seq items n, slots := sl } ∧
      R (.ok (.ret (Value.ref s.heap.objs.size))) { s with heap := s.heap.push { cls := Value.type "tuple", data := Data.seq #[] }, toks := s.toks }) :=
  .of_wp fun prog w A R s h => by
    obtain ⟨hp, g, d, tk, os⟩ := s
    obtain ⟨hl, h⟩ := h
    have f1 := AutoSeq1.idx_int
    wp_walk using wpAny_loadPart' hl
    repeat (first
      | (refine wpAny_ite_false (decide_eq_false (by rw [c0]; exact Bool.false_ne_true)) ?_; wp_walk using wpAny_loadPart' hl)
      | (refine wpAny_ite_false (decide_eq_false (by rw [c1]; exact Bool.false_ne_true)) ?_; wp_walk using wpAny_loadPart' hl)
      | (refine wpAny_ite_true (decide_eq_true c2) ?_; wp_walk using wpAny_loadPart' hl))
    exact ⟨_, rfl, h⟩
def rRepU (K : PySem.W.Frag) : R2 := fun x y H Q => ∃ l k xs, x = .ref l ∧ y = .int k ∧ SqT K H l xs ∧ -1000 ≤ k ∧ k ≤ 1000 ∧ ((xs = [] ∨ k = 1) → Q (.ref l) H) ∧ (xs ≠ [] → k ≤ 0 → ∀ p, H p = none → Q (.ref p) (upd H p (.tup []))) ∧ (xs = [] ∨ k = 1 ∨ k ≤ 0)
section
variable {X : Cx}
theorem op_repU : OpR X (binaryOp .Mult) (rRepU X.K) := by
  intro pins s σ H x y v u Q I rx ry h
  obtain ⟨l, k, xs, rfl, rfl, hT, h1, h2, q1, q2, q3⟩ := h
  cases rx
  obtain ⟨t, rfl⟩ := ry
  obtain ⟨its, r, ⟨⟨cls, dd, data, sl⟩, ho, hc, n, hd⟩, hs⟩ := I.tuple hT
  simp only at hc hd
  subst hc hd
  have hle : its.length = xs.length := r.length.symm
  have c0 : (decide (k < -(2 ^ 63)) || decide (k ≥ 2 ^ 63)) = false := by
    rw [decide_eq_false (by omega), decide_eq_false (by omega)] <;> rfl
  refine wpAny_binaryOp_repeat_ref (T := "tuple") (U := "int") (by decide) ⟨_, ho, rfl⟩ (fun s' => typeIs_int s' k t) noFill_tuple_mul F.fills_int_mul F.slot_int_rmul repeat_tuple F.slot_int_index.lookup
    (call_meets F.slot_int_rmul (typeIs_int s k t) F.entry_int_rmul (F.args_int_rmul_2 _ _) (int_rmul_tuple k t l its.toArray n dd sl)
      ⟨ho, rfl, ⟨_, ho, rfl⟩, ?_⟩)
  by_cases hz : xs = [] ∨ k = 1
  · have c1 : (its.toArray.isEmpty || k == 1) = true := by
      rcases hz with z | z
      · have : its = [] := List.eq_nil_of_length_eq_zero (by rw [hle, z]; rfl)
        rw [this]; rfl
      · rw [z]; simp
    exact call_meets F.slot_tuple_mul ⟨_, ho, rfl⟩ F.entry_tuple_mul (F.args_tuple_mul_2 _ _) (tuple_mulS l its.toArray n sl dd k t c0 c1) ⟨ho, .ref l, H, I, rfl, q1 hz⟩
  · have hne : xs ≠ [] := fun z => hz (.inl z)
    have h0 : k ≤ 0 := by
      rcases q3 with z | z | z
      · exact absurd z hne
      · exact absurd (.inr z) hz
      · exact z
    have hn : its ≠ [] := fun e => hne (List.eq_nil_of_length_eq_zero (by rw [← hle, e]; rfl))
    have hi : its.toArray.isEmpty = false := by
      cases its with
      | nil => exact absurd rfl hn
      | cons a b => rfl
    have c1 : (its.toArray.isEmpty || k == 1) = false := by
      rw [hi, Bool.false_or]
      exact beq_eq_false_iff_ne.mpr (by omega)
    have c2 : (decide (k ≤ 0) || its.toArray.isEmpty) = true := by rw [decide_eq_true h0]; rfl
    refine call_meets F.slot_tuple_mul ⟨_, ho, rfl⟩ F.entry_tuple_mul (F.args_tuple_mul_2 _ _) (tuple_mulE l its.toArray n sl dd k t c0 c1 c2) ⟨ho, ?_⟩
    refine ⟨.ref s.heap.objs.size, _, I.laid (t' := s.toks) (o := .tup []) (fun b ob q => Heap.get?_push_of_some _ q) (Nat.le_refl _) ?_, rfl, q2 hne h0 _ (I.hok.fresh (Nat.le_refl _))⟩
    exact ⟨Nat.zero_le _, [], .nil, IsTup.new _ _⟩
end
end L2
/-! EvDa: dicts whose keys are tuples, nested, over the layer's heap. -/
namespace Ev
open PySem PySem.Spec L2
open PyProof.Rows (subscriptTail_builtinR)
mutual
inductive NK (K : PySem.W.Frag) (H : Hp) : NestedKey → V → Prop
  | none : NK K H .none .non
  | int (i : Int) : NK K H (.num i) (.int i)
  | str (s : Str) : NK K H (.text s) (.str s)
  | tup {a : Addr} {vs : List V} {ks : List NestedKey} : SqT K H a vs → NKs K H ks vs → NK K H (.tup ks) (.ref a)
inductive NKs (K : PySem.W.Frag) (H : Hp) : List NestedKey → List V → Prop
  | nil : NKs K H [] []
  | cons {k : NestedKey} {v : V} {ks : List NestedKey} {vs : List V} : NK K H k v → NKs K H ks vs → NKs K H (k :: ks) (v :: vs)
end
theorem dtu_of {w : World} {o : Obj} {ks : List NestedKey} {kv vv : List V} (h : DTu w o ks kv vv ∨ DIn w o ks kv vv) (a : allT ks = true) : DTu w o ks kv vv := by
  rcases h with h | ⟨_, _, _, _, _, n⟩
  · exact h
  · rw [a] at n; cases n
theorem dtu_m {w : World} {o : Obj} {ks : List NestedKey} {kv vv : List V} (h : DTu w o ks kv vv) : ∃ xs : List Ent, DEntM w o xs ∧ ks = xs.map (·.1) ∧ Vals kv (xs.map (·.2.1)) ∧ Vals vv (xs.map (·.2.2)) := by
  obtain ⟨xs, ⟨h1, ⟨es, ep, h2, h3⟩, h4, h5, h6⟩, e1, e2, e3⟩ := h
  refine ⟨xs.map fun x => (x.1, .ref x.2.1, x.2.2), ⟨h1, ⟨es, ep, h2, ?_⟩, ?_, ?_, fun x hx => ?_⟩, ?_, ?_, ?_⟩
  · rw [h3, List.map_map]; rfl
  · rw [List.map_map]; exact h4
  · rw [List.length_map]; exact h5
  · obtain ⟨y, hy, rfl⟩ := List.mem_map.mp hx
    exact h6 y hy
  · rw [e1, List.map_map]; rfl
  · rw [e2, List.map_map]
    clear h3 h4 h5 h6 e1 e2 e3
    induction xs with
    | nil => exact .nil
    | cons x xs ih => exact .cons rfl ih
  · rw [List.map_map]; exact e3
theorem dky_walk {w : World} {o : Obj} {ks : List NestedKey} {kv vv : List V} (h : DTu w o ks kv vv ∨ DIn w o ks kv vv) : o.ExactDict ∧ ∃ es ep, o.data = .dict es ep ∧ Vals kv (es.toList.map (·.key)) := by
  have go : ∀ {kv vv : List V}, (∃ xs : List Ent, DEntM w o xs ∧ ks = xs.map (·.1) ∧ Vals kv (xs.map (·.2.1)) ∧ Vals vv (xs.map (·.2.2))) → o.ExactDict ∧ ∃ es ep, o.data = .dict es ep ∧ Vals kv (es.toList.map (·.key)) := fun ⟨xs, ⟨h1, ⟨es, ep, h2, h3⟩, _⟩, _, e2, _⟩ => by
    refine ⟨h1, es, ep, h2, ?_⟩
    rw [h3, List.map_map]
    exact e2
  rcases h with h | ⟨xs, a, b, c, d, _⟩
  · exact go (dtu_m h)
  · exact go ⟨xs, a, b, c, d⟩
section
variable {X : Cx} {pins : List (Addr × Obj)} {σ : St} {H : Hp} {s : Shared} {d : Addr} {xs : List (NestedKey × Addr × Value)}
mutual
theorem nk_is (I : Inv X pins σ H s) : ∀ {k : NestedKey} {v : V} {u : Value}, NK X.K H k v → RelV v u → NestedIs s.heap k u
  | _, _, _, .none, r => by cases r; exact .none
  | _, _, _, .int i, ⟨t, e⟩ => by subst e; exact .int i t
  | _, _, _, .str x, ⟨t, e⟩ => by subst e; exact .text x t
  | _, _, _, .tup sq t, r => by
    cases r
    obtain ⟨its, rv, ⟨o, ho, hc, n, hd⟩, _⟩ := I.tuple sq
    exact .tup ho hc hd (nks_is I t (by simpa using rv))
theorem nks_is (I : Inv X pins σ H s) : ∀ {ks : List NestedKey} {vs : List V} {us : List Value}, NKs X.K H ks vs → Vals vs us → NestedAll s.heap ks us
  | _, _, _, .nil, r => by cases r; exact .nil
  | _, _, _, .cons h t, r => by
    cases r with
    | cons r1 r2 => exact .cons (nk_is I h r1) (nks_is I t r2)
end
def DKd (w : World) (K : PySem.W.Frag) (H : Hp) (d : Addr) (xs : List (NestedKey × Addr × Value)) : Prop :=
  ∃ o, H d = some (XO d o) ∧ DEnt w o xs ∧ (d == sysModules) = false ∧ ∀ x ∈ xs, NK K H x.1 (.ref x.2.1)
theorem dk_of (I : Inv X pins σ H s) (g : DKd X.w X.K H d xs) : s.heap.DictOfH (nestedKind X.prog X.w) d xs ∧ (d == sysModules) = false ∧ xs.length ≤ sizeLine := by
  obtain ⟨o, hd, ⟨h1, ⟨es, ep, h2, h3⟩, h4, h5, h6⟩, hs, hk⟩ := g
  obtain ⟨ho, _⟩ := I.hok d _ hd
  exact ⟨⟨o, es, ep, ho, h1, h2, h3, fun x hx => ⟨nk_is I (hk x hx) rfl, h6 x hx⟩, h4⟩, hs, h5⟩
def rInK (w : World) (K : PySem.W.Frag) (g : Bool → Bool) : R2 := fun x y H Q => ∃ b d k xs, x = .ref b ∧ y = .ref d ∧ DKd w K H d xs ∧ NK K H k (.ref b) ∧ k.depth ≤ 8 ∧ Q (.bl (g (atKey xs k).isSome)) H
theorem op_inK (hu : X.A.units + 65 < cLine) : OpR X (compareOp .In) (rInK X.w X.K id) := by
  intro pins s σ H x y v u Q I rx ry h
  obtain ⟨b, d, k, xs, rfl, rfl, g, nk, dp, q⟩ := h
  cases rx; cases ry
  obtain ⟨hm, hd, _⟩ := dk_of I g
  exact wpAny_in_heap (knd := nestedKind X.prog X.w) (by show X.A.units + 1 + 8 < cLine; omega) ⟨nk_is I nk rfl, dp⟩ hd hm ⟨.bl _, H, I.tok _, rfl, q⟩
theorem op_ninK (hu : X.A.units + 65 < cLine) : OpR X (compareOp .NotIn) (rInK X.w X.K (!·)) := by
  intro pins s σ H x y v u Q I rx ry h
  obtain ⟨b, d, k, xs, rfl, rfl, g, nk, dp, q⟩ := h
  cases rx; cases ry
  obtain ⟨hm, hd, _⟩ := dk_of I g
  exact PyProof.Rows.wpAny_notIn_heap (knd := nestedKind X.prog X.w) (by show X.A.units + 1 + 8 < cLine; omega) ⟨nk_is I nk rfl, dp⟩ hd hm ⟨.bl _, H, I.tok _, rfl, q⟩
def rIxK (w : World) (K : PySem.W.Frag) : R2 := fun x y H Q => ∃ b d k xs p v, x = .ref d ∧ y = .ref b ∧ DKd w K H d xs ∧ NK K H k (.ref b) ∧ k.depth ≤ 8 ∧ atKey xs k = some p ∧ RelV v p.2 ∧ Q v H
theorem ix_dk (hu : X.A.units + 65 < cLine) : IxR X (rIxK X.w X.K) := by
  intro value slice pins s σ H x y v u Q I rx ry h hs
  obtain ⟨b, d, k, xs, p, w, rfl, rfl, g, nk, dp, hp, rw', q⟩ := h
  cases rx; cases ry
  obtain ⟨hm, hd, _⟩ := dk_of I g
  have fin : EP X pins σ Q p.2 { s with toks := s.toks + (nestedKind X.prog X.w).draws k } := ⟨w, H, I.tok _, rw', q⟩
  exact subscriptTail_builtinR (x := p.2) hm.typeIs PySem.F.slot_dict_getitem.lookup
    (wpAny_getItem_heap (knd := nestedKind X.prog X.w) (Q := fun r s' => r = p.2 ∧ EP X pins σ Q r s') (by show X.A.units + 1 + 8 < cLine; omega) ⟨nk_is I nk rfl, dp⟩ hm hp ⟨rfl, fin⟩) hs
def rSetK (w : World) (K : PySem.W.Frag) : TSet := fun o i v H Q => ∃ b d k xs, o = .ref d ∧ i = .ref b ∧ DKd w K H d xs ∧ NK K H k (.ref b) ∧ k.depth ≤ 8 ∧ xs.length < sizeLine ∧
  ∀ u ob, RelV v u → DEnt w ob (storedH xs k b u) → Q (upd H d (XO d ob))
theorem set_dk (hu : X.A.units + 65 < cLine) : PSet X (rSetK X.w X.K) := by
  intro pins s σ H o i v ov iv u Q I ro ri rv h
  obtain ⟨b, d, k, xs, rfl, rfl, g, nk, dp, lt, q⟩ := h
  cases ro; cases ri
  obtain ⟨hm, hd, hz⟩ := dk_of I g
  have hk : (nestedKind X.prog X.w).is s.heap k b := ⟨nk_is I nk rfl, dp⟩
  refine wpAny_setItem_heap (knd := nestedKind X.prog X.w) (hsz := hz) (by show X.A.units + 1 + 8 < cLine; omega) hk hm fun h' dd' hs => ?_
  obtain ⟨ob, es, ep, hq, h2, h3, h4, h6, h5⟩ := dd'
  obtain ⟨o0, hd0, _⟩ := g
  have ln : (storedH xs k b u).length ≤ sizeLine := by
    unfold storedH
    split
    · rw [List.length_map]; exact hz
    · rw [List.length_append, List.length_singleton]; omega
  refine ⟨upd H d (XO d ob), d_write I (by rw [hd0]; exact True.intro) hs ⟨ob, hq⟩ ⟨hq, ⟨ob, hq⟩, fun h1 h2 e k => k ob e⟩, q u ob rv ⟨h2, ⟨es, ep, h3, h4⟩, h5, ln, fun x hx => (h6 x hx).2⟩⟩
/-- the same where not all keys are tuples -/
def rSetM (w : World) (K : PySem.W.Frag) : TSet := fun o i v H Q => ∃ d k xs ob0 kv, o = .ref d ∧ NK K H k i ∧ (∀ z, i ≠ .str z) ∧ k.depth ≤ 8 ∧ H d = some (XO d ob0) ∧ DEntM w ob0 xs ∧ NKs K H (xs.map (·.1)) kv ∧ Vals kv (xs.map (·.2.1)) ∧ xs.length < sizeLine ∧
  ∀ u y ob, RelV v u → RelV i y → DEntM w ob (stM xs k y u) → Q (upd H d (XO d ob))
theorem nks_ent (I : Inv X pins σ H s) : ∀ {xs : List Ent} {kv : List V}, NKs X.K H (xs.map (·.1)) kv → Vals kv (xs.map (·.2.1)) → ∀ x ∈ xs, NestedIs s.heap x.1 x.2.1
  | x :: xs, _, .cons n ns, .cons r rs, z, hz => by
    rcases List.mem_cons.mp hz with e | hz
    · rw [e]; exact nk_is I n r
    · exact nks_ent I ns rs z hz
theorem rel_nstr {i : V} {y : Value} (h : ∀ z, i ≠ .str z) (r : RelV i y) : ∀ x t, y ≠ .str x t := fun x t e => by
  subst e
  cases i <;> first | exact h _ rfl | (obtain ⟨_, q⟩ := r; cases q) | cases r
theorem dset_inv {A : Around} {F : Value → Shared → Prop} {k : NestedKey} {ob0 : Obj} {xs : List Ent} {kv : List V} {i v : V} {y u : Value} {Q : Hp → Prop} (hu : A.units + 8 < cLine) (I : Inv X pins σ H s) (ri : RelV i y) (rv : RelV v u) (nk : NK X.K H k i) (ns : ∀ z, i ≠ .str z) (dp : k.depth ≤ 8) (hd0 : H d = some (XO d ob0)) (de : DEntM X.w ob0 xs) (nks : NKs X.K H (xs.map (·.1)) kv) (vs : Vals kv (xs.map (·.2.1))) (lt : xs.length < sizeLine)
    (q : ∀ u y ob, RelV v u → RelV i y → DEntM X.w ob (stM xs k y u) → Q (upd H d (XO d ob))) : wpAny (model X.prog X.w) A (dictSet d y u) (fun _ s' => ∃ H', Inv X pins σ H' s' ∧ Q H') F s := by
  obtain ⟨hgd, _⟩ := I.hok d _ hd0
  exact dset_m hu (nk_is I nk ri) dp (rel_nstr ns ri) hgd de lt (nks_ent I nks vs) fun h' ob e1 de' sb => ⟨upd H d (XO d ob), d_write I (by rw [hd0]; exact True.intro) sb ⟨ob, e1⟩ ⟨e1, ⟨ob, e1⟩, fun h1 h2 e k => k ob e⟩, q u y ob rv ri de'⟩
theorem set_dm (hu : X.A.units + 65 < cLine) : PSet X (rSetM X.w X.K) := by
  intro pins s σ H o i v ov iv u Q I ro ri rv h
  obtain ⟨d, k, xs, ob0, kv, rfl, nk, ns, dp, hd0, de, nks, vs, lt, q⟩ := h
  cases ro
  obtain ⟨hgd, _⟩ := I.hok d _ hd0
  have hT : s.TypeIs (.ref d) "dict" := ⟨ob0, hgd, de.1.1⟩
  unfold setItem
  try with_reducible refine wpAny_holding ?_
  refine wpAny_bind (wpAny_sequenceKey hT (by decide) ?_)
  refine wpAny_bind (wpAny_callSpecial?_slot (name := Str.ofString "__setitem__") hT PySem.F.slot_dict_setitem (wpAny_call_entry PySem.F.slot_dict_setitem hT PySem.F.entry_dict_setitem ?_ (PySem.args_dict_setitem _ _ _)))
  show wpAny _ _ (Builtin.Dict.notOrdered "__setitem__" ⟨[.ref d, iv, u], []⟩ >>= _) _ _ s
  refine wpAny_bind (wpAny_notOrdered_dict hT ?_)
  show wpAny _ _ (dictSet d iv u >>= _) _ _ s
  refine wpAny_bind (wpAny_mono (dset_inv (Q := Q) (F := fun _ _ => False) (by show X.A.units + 1 + 8 < cLine; omega) I ri rv nk ns dp hd0 de nks vs lt q) ?_ fun _ _ z => z.elim)
  rintro _ s' ⟨H', I', q'⟩
  exact wpAny_pure ⟨.none, rfl, wpAny_pure ⟨H', I', q'⟩⟩
/-- {} -/
theorem pe_dnewN {pos : Pos} : PE X (.Dict [] [] pos) (fun σ H Q => ∀ p ob, H p = none → DEnt X.w ob [] → (p == sysModules) = false → Q (.ref p) (upd H p (XO p ob))) := ⟨fun pins s σ H Q I h => by
  refine wpAny_Dict_empty ⟨.ref s.heap.objs.size, _, I.laid (a := s.heap.objs.size) (o := XO s.heap.objs.size { cls := .type "dict", data := .dict #[] }) (t' := s.toks) (fun _ _ q => Heap.get?_push_of_some _ q) (Nat.le_refl _) ⟨Heap.get?_push_size _ rfl, ⟨_, Heap.get?_push_size _ rfl⟩, fun h1 h2 e k => k _ e⟩, rfl, h _ _ (I.hok.fresh (Nat.le_refl _)) ⟨⟨rfl, rfl, rfl⟩, ⟨#[], 0, rfl, rfl⟩, List.nodup_nil, Nat.zero_le _, fun x hx => by cases hx⟩ ?_⟩
  have := I.big
  exact beq_eq_false_iff_ne.mpr (Nat.ne_of_gt this)⟩
end
mutual
def toK : D → Option NestedKey
  | .non => some .none
  | .int i => some (.num i)
  | .str s => some (.text s)
  | .tup xs => match toKs xs with
    | none => none
    | some ks => some (.tup ks)
  | _ => none
def toKs : List D → Option (List NestedKey)
  | [] => some []
  | x :: xs => match toK x with
    | none => none
    | some k => match toKs xs with
      | none => none
      | some ks => some (k :: ks)
end
/-- a tuple as a key -/
def keyT (x : D) : Option NestedKey := match x with
  | .tup xs => match toKs xs with
    | none => none
    | some ks => if (NestedKey.tup ks).depth ≤ 8 then some (.tup ks) else none
  | _ => none
def keyD (ks : List NestedKey) (x : D) : Option NestedKey := if allT ks = true then keyT x else none
theorem keyD_ok {ks : List NestedKey} {x : D} {k : NestedKey} (q : keyD ks x = some k) : keyT x = some k ∧ allT ks = true := by
  unfold keyD at q
  split at q
  · rename_i h; exact ⟨q, h⟩
  · cases q
def dctAt (x : D) (h : Hs) : Option (List NestedKey × List D) := match x with
  | .dct ks vs => some (ks, vs)
  | .ref m => match cellAt h m with
    | some (.dct ks vs) => some (ks, vs)
    | _ => none
  | _ => none
section
variable [TheW] {K : PySem.W.Frag} {ι : Io} {h : Hs} {H : Hp}
mutual
theorem rep_nk : ∀ {x : D} {k : NestedKey} {v : V}, toK x = some k → Rep K ι H x v → NK K H k v
  | .non, _, _, q, .non => by cases q; exact .none
  | .int i, _, _, q, .int _ => by cases q; exact .int i
  | .str s, _, _, q, .str _ => by cases q; exact .str s
  | .tup xs, k, _, q, .tup f t => by
    unfold toK at q
    cases q1 : toKs xs with
    | none => rw [q1] at q; cases q
    | some ks => rw [q1] at q; cases q; exact .tup f.sq (reps_nk q1 t)
  | .bl _, _, _, q, _ => by cases q
  | .lst _, _, _, q, _ => by cases q
  | .scr _, _, _, q, _ => by cases q
  | .ins _ _ _, _, _, q, _ => by cases q
  | .cls _, _, _, q, _ => by cases q
  | .exc _ _ _, _, _, q, _ => by cases q
  | .fnv _, _, _, q, _ => by cases q
  | .dct _ _, _, _, q, _ => by cases q
  | .ref _, _, _, q, _ => by cases q
theorem reps_nk : ∀ {xs : List D} {ks : List NestedKey} {vs : List V}, toKs xs = some ks → RepL K ι H xs vs → NKs K H ks vs
  | [], _, _, q, .nil => by cases q; exact .nil
  | x :: xs, ks, _, q, .cons r t => by
    unfold toKs at q
    cases q1 : toK x with
    | none => rw [q1] at q; cases q
    | some k =>
      rw [q1] at q
      dsimp only at q
      cases q2 : toKs xs with
      | none => rw [q2] at q; cases q
      | some ks => rw [q2] at q; cases q; exact .cons (rep_nk q1 r) (reps_nk q2 t)
end
mutual
theorem toK_kd : ∀ k : NestedKey, toK (kd k) = some k
  | .none => rfl
  | .num _ => rfl
  | .text _ => rfl
  | .tup ks => by show (match toKs (kds ks) with | none => none | some ks => some (NestedKey.tup ks)) = _; rw [toKs_kds ks]
theorem toKs_kds : ∀ ks : List NestedKey, toKs (kds ks) = some ks
  | [] => rfl
  | k :: ks => by
    show (match toK (kd k) with | none => none | some k => match toKs (kds ks) with | none => none | some ks => some (k :: ks)) = _
    rw [toK_kd k, toKs_kds ks]
end
theorem nks_all : ∀ {xs : List (NestedKey × Addr × Value)}, NKs K H (xs.map (·.1)) (xs.map fun x => V.ref x.2.1) → ∀ x ∈ xs, NK K H x.1 (.ref x.2.1)
  | [], _, x, hx => by cases hx
  | y :: xs, .cons r t, x, hx => by
    rcases List.mem_cons.mp hx with e | hx
    · subst e; exact r
    · exact nks_all t x hx
theorem rep_dk (R : RH K ι h H) {x : D} {ks : List NestedKey} {ds : List D} {v : V} (q : dctAt x h = some (ks, ds)) (hT : allT ks = true) (r : Rep K ι H x v) : ∃ d vv xs, v = .ref d ∧ DKd TheW.w K H d xs ∧ ks = xs.map (·.1) ∧ Vals vv (xs.map (·.2.2)) ∧ RepL K ι H ds vv := by
  have fin : ∀ {a : Addr} {kv vv : List V}, FD0 TheW.w H a ks kv vv → RepL K ι H (kds ks) kv → RepL K ι H ds vv → ∃ d vv xs, V.ref a = .ref d ∧ DKd TheW.w K H d xs ∧ ks = xs.map (·.1) ∧ Vals vv (xs.map (·.2.2)) ∧ RepL K ι H ds vv := by
    intro a kv vv f rk rv
    obtain ⟨o, h1, dk, h6⟩ := f
    obtain ⟨xs, h2, h3, h4, h5⟩ := dtu_of dk hT
    refine ⟨a, vv, xs, rfl, ⟨o, h1, h2, h6, ?_⟩, h3, h5, rv⟩
    have := reps_nk (toKs_kds ks) rk
    rw [h3, h4] at this
    exact nks_all this
  cases x <;> try cases q
  · cases r with
    | ref e =>
      unfold dctAt at q
      dsimp only at q
      rename_i m a
      cases q1 : cellAt h m with
      | none => rw [q1] at q; cases q
      | some o =>
        rw [q1] at q
        cases o <;> try cases q
        obtain ⟨b, eb, _, orr, _⟩ := cellAt_rep R q1 (.ref e)
        cases eb
        obtain ⟨kv, vv, f, rk, rv⟩ := orr
        exact fin f rk rv
    | dead e =>
      unfold dctAt at q
      dsimp only at q
      rename_i m
      cases q1 : cellAt h m with
      | none => rw [q1] at q; cases q
      | some o =>
        obtain ⟨b, eb, _, orr, _⟩ := cellAt_rep R q1 (.dead (v := v) e)
        rw [q1] at q
        cases o <;> try cases q
        obtain ⟨kv, vv, f, rk, rv⟩ := orr
        subst eb
        exact fin f rk rv
  · cases r with
    | dct f rk rv => exact fin f.1 rk rv
mutual
theorem toK_eq : ∀ {x : D} {k : NestedKey}, toK x = some k → x = kd k
  | .non, _, q => by cases q; rfl
  | .int i, _, q => by cases q; rfl
  | .str s, _, q => by cases q; rfl
  | .tup xs, k, q => by
    unfold toK at q
    cases q1 : toKs xs with
    | none => rw [q1] at q; cases q
    | some ks => rw [q1] at q; cases q; show D.tup xs = D.tup (kds ks); rw [toKs_eq q1]
  | .bl _, _, q => by cases q
  | .lst _, _, q => by cases q
  | .scr _, _, q => by cases q
  | .ins _ _ _, _, q => by cases q
  | .cls _, _, q => by cases q
  | .exc _ _ _, _, q => by cases q
  | .fnv _, _, q => by cases q
  | .dct _ _, _, q => by cases q
  | .ref _, _, q => by cases q
theorem toKs_eq : ∀ {xs : List D} {ks : List NestedKey}, toKs xs = some ks → xs = kds ks
  | [], _, q => by cases q; rfl
  | x :: xs, ks, q => by
    unfold toKs at q
    cases q1 : toK x with
    | none => rw [q1] at q; cases q
    | some k =>
      rw [q1] at q
      dsimp only at q
      cases q2 : toKs xs with
      | none => rw [q2] at q; cases q
      | some ks => rw [q2] at q; cases q; show x :: xs = kd k :: kds ks; rw [toK_eq q1, toKs_eq q2]
end
theorem keyT_ok {x : D} {k : NestedKey} (q : keyT x = some k) : x = kd k ∧ k.depth ≤ 8 ∧ ∃ ks, k = .tup ks := by
  cases x <;> try cases q
  rename_i xs
  unfold keyT at q
  dsimp only at q
  cases q1 : toKs xs with
  | none => rw [q1] at q; cases q
  | some ks =>
    rw [q1] at q
    dsimp only at q
    split at q
    · cases q
      exact ⟨by show D.tup xs = D.tup (kds ks); rw [toKs_eq q1], by assumption, ks, rfl⟩
    · cases q
theorem keyT_nk {x : D} {k : NestedKey} {v : V} (q : keyT x = some k) (r : Rep K ι H x v) : ∃ b, v = .ref b ∧ NK K H k (.ref b) ∧ k.depth ≤ 8 := by
  obtain ⟨e, dp, ks, rfl⟩ := keyT_ok q
  subst e
  have z := rep_nk (toK_kd (.tup ks)) r
  cases z with
  | tup sq t => exact ⟨_, rfl, .tup sq t, dp⟩
end
/-- the value of a key -/
def getK {α : Type} : List NestedKey → List α → NestedKey → Option α
  | k' :: ks, v :: vs, k => if k' = k then some v else getK ks vs k
  | _, _, _ => none
/-- the values, one put -/
def putL {α : Type} : List NestedKey → List α → NestedKey → α → List α
  | k' :: ks, v :: vs, k, d => if k' = k then d :: vs else v :: putL ks vs k d
  | _, _, _, d => [d]
def putKs : List NestedKey → NestedKey → List NestedKey
  | [], k => [k]
  | k' :: ks, k => if k' = k then k' :: ks else k' :: putKs ks k
theorem getK_at : ∀ {xs : List (NestedKey × Addr × Value)} {k : NestedKey}, getK (xs.map (·.1)) (xs.map (·.2.2)) k = (atKey xs k).map (·.2)
  | [], k => rfl
  | x :: xs, k => by
    have ih := getK_at (xs := xs) (k := k)
    show (if x.1 = k then some x.2.2 else getK (xs.map (·.1)) (xs.map (·.2.2)) k) = _
    unfold atKey
    rw [List.find?_cons]
    by_cases c : x.1 = k
    · rw [if_pos c, decide_eq_true c]; rfl
    · rw [if_neg c, decide_eq_false c, ih]; rfl
theorem getK_rel {ks : List NestedKey} {k : NestedKey} {u : Value} : ∀ {vv : List V} {us : List Value} {ks : List NestedKey}, Vals vv us → getK ks us k = some u → ∃ v, getK ks vv k = some v ∧ RelV v u
  | _, _, [], .nil, q => by cases q
  | _, _, [], .cons _ _, q => by cases q
  | _, _, _ :: _, .nil, q => by cases q
  | _, _, k' :: ks, .cons r t, q => by
    unfold getK at q ⊢
    by_cases c : k' = k
    · rw [if_pos c] at q ⊢; cases q; exact ⟨_, rfl, r⟩
    · rw [if_neg c] at q ⊢; exact getK_rel (ks := ks) t q
section
variable [TheW] {K : PySem.W.Frag} {ι : Io} {H : Hp}
theorem getK_rep {k : NestedKey} {d : D} : ∀ {ds : List D} {vv : List V} {ks : List NestedKey}, RepL K ι H ds vv → getK ks ds k = some d → ∃ v, getK ks vv k = some v ∧ Rep K ι H d v
  | _, _, [], .nil, q => by cases q
  | _, _, [], .cons _ _, q => by cases q
  | _, _, _ :: _, .nil, q => by cases q
  | _, _, k' :: ks, .cons r t, q => by
    unfold getK at q ⊢
    by_cases c : k' = k
    · rw [if_pos c] at q ⊢; cases q; exact ⟨_, rfl, r⟩
    · rw [if_neg c] at q ⊢; exact getK_rep (ks := ks) t q
theorem putL_rep {k : NestedKey} {d : D} {v : V} (r0 : Rep K ι H d v) : ∀ {ds : List D} {vv : List V} {ks : List NestedKey}, RepL K ι H ds vv → RepL K ι H (putL ks ds k d) (putL ks vv k v)
  | _, _, [], .nil => .cons r0 .nil
  | _, _, [], .cons _ _ => .cons r0 .nil
  | _, _, _ :: _, .nil => .cons r0 .nil
  | _, _, k' :: ks, .cons r t => by
    unfold putL
    by_cases c : k' = k
    · rw [if_pos c, if_pos c]; exact .cons r0 t
    · rw [if_neg c, if_neg c]; exact .cons r (putL_rep r0 (ks := ks) t)
end
theorem putL_rel {k : NestedKey} {v : V} {u : Value} (r0 : RelV v u) : ∀ {vv : List V} {us : List Value} {ks : List NestedKey}, Vals vv us → Vals (putL ks vv k v) (putL ks us k u)
  | _, _, [], .nil => .cons r0 .nil
  | _, _, [], .cons _ _ => .cons r0 .nil
  | _, _, _ :: _, .nil => .cons r0 .nil
  | _, _, k' :: ks, .cons r t => by
    unfold putL
    by_cases c : k' = k
    · rw [if_pos c, if_pos c]; exact .cons r0 t
    · rw [if_neg c, if_neg c]; exact .cons r (putL_rel r0 (ks := ks) t)
theorem put_no {k : NestedKey} {u : Value} : ∀ {xs : List (NestedKey × Addr × Value)}, k ∉ xs.map (·.1) → xs.map (putAt k u) = xs
  | [], _ => rfl
  | x :: xs, h => by
    rw [List.map_cons, List.mem_cons] at h
    rw [List.map_cons, put_no fun z => h (.inr z)]
    unfold putAt
    rw [if_neg fun e => h (.inl e.symm)]
theorem atKey_cons {x : NestedKey × Addr × Value} {xs : List (NestedKey × Addr × Value)} {k : NestedKey} : atKey (x :: xs) k = if x.1 = k then some x.2 else atKey xs k := by
  unfold atKey
  rw [List.find?_cons]
  by_cases c : x.1 = k
  · rw [if_pos c, decide_eq_true c]; rfl
  · rw [if_neg c, decide_eq_false c]
theorem stored_cons {x : NestedKey × Addr × Value} {xs : List (NestedKey × Addr × Value)} {k : NestedKey} {b : Addr} {u : Value} (nd : ((x :: xs).map (·.1)).Nodup) : storedH (x :: xs) k b u = if x.1 = k then (x.1, x.2.1, u) :: xs else x :: storedH xs k b u := by
  rw [List.map_cons, List.nodup_cons] at nd
  unfold storedH
  rw [atKey_cons]
  by_cases c : x.1 = k
  · rw [if_pos c, if_pos c, if_pos (show (some x.2).isSome = true from rfl), List.map_cons, put_no (c ▸ nd.1)]
    unfold putAt
    rw [if_pos c]
  · rw [if_neg c, if_neg c]
    split
    · rw [List.map_cons]
      unfold putAt
      rw [if_neg c]
    · rfl
theorem stored_ks : ∀ {xs : List (NestedKey × Addr × Value)} {k : NestedKey} {b : Addr} {u : Value}, (xs.map (·.1)).Nodup → (storedH xs k b u).map (·.1) = putKs (xs.map (·.1)) k ∧ (storedH xs k b u).map (·.2.2) = putL (xs.map (·.1)) (xs.map (·.2.2)) k u
  | [], _, _, _, _ => ⟨rfl, rfl⟩
  | x :: xs, k, b, u, nd => by
    rw [stored_cons nd]
    have ih := stored_ks (xs := xs) (k := k) (b := b) (u := u) (List.nodup_cons.mp nd).2
    rw [List.map_cons, List.map_cons]
    unfold putKs putL
    by_cases c : x.1 = k
    · rw [if_pos c, if_pos c, if_pos c]; exact ⟨rfl, rfl⟩
    · rw [if_neg c, if_neg c, if_neg c]
      exact ⟨by rw [List.map_cons, ih.1], by rw [List.map_cons, ih.2]⟩
section
variable [TheW] {K : PySem.W.Frag} {ι : Io} {H : Hp}
theorem stored_kv {k : NestedKey} {b : Addr} {u : Value} (r0 : Rep K ι H (kd k) (.ref b)) : ∀ {xs : List (NestedKey × Addr × Value)}, (xs.map (·.1)).Nodup → RepL K ι H (kds (xs.map (·.1))) (xs.map fun x => V.ref x.2.1) → RepL K ι H (kds (putKs (xs.map (·.1)) k)) ((storedH xs k b u).map fun x => V.ref x.2.1)
  | [], _, _ => .cons r0 .nil
  | x :: xs, nd, .cons r t => by
    rw [stored_cons nd, List.map_cons]
    unfold putKs
    by_cases c : x.1 = k
    · rw [if_pos c, if_pos c]; exact .cons r t
    · rw [if_neg c, if_neg c]; exact .cons r (stored_kv r0 (List.nodup_cons.mp nd).2 t)
def putKv : List NestedKey → List V → NestedKey → V → List V
  | [], _, _, v => [v]
  | _ :: _, [], _, v => [v]
  | k' :: ks, v' :: vs, k, v => if k' = k then v' :: vs else v' :: putKv ks vs k v
theorem stM_put {k : NestedKey} {y u : Value} {v : V} (r : RelV v y) : ∀ {xs : List Ent} {kv : List V}, Vals kv (xs.map (·.2.1)) → (stM xs k y u).map (·.1) = putKs (xs.map (·.1)) k ∧ (stM xs k y u).map (·.2.2) = putL (xs.map (·.1)) (xs.map (·.2.2)) k u ∧ Vals (putKv (xs.map (·.1)) kv k v) ((stM xs k y u).map (·.2.1))
  | [], _, .nil => ⟨rfl, rfl, .cons r .nil⟩
  | x :: xs, _, .cons q t => by
    obtain ⟨a, b, c⟩ := stM_put (k := k) (u := u) r t
    rw [List.map_cons, List.map_cons]
    unfold stM putKs putL putKv
    by_cases e : x.1 = k
    · rw [if_pos e, if_pos e, if_pos e, if_pos e]; exact ⟨rfl, rfl, .cons q t⟩
    · rw [if_neg e, if_neg e, if_neg e, if_neg e, List.map_cons, List.map_cons, List.map_cons, a, b]
      exact ⟨rfl, rfl, .cons q c⟩
theorem putKv_rep {k : NestedKey} {v : V} (r : Rep K ι H (kd k) v) : ∀ {ks : List NestedKey} {kv : List V}, RepL K ι H (kds ks) kv → RepL K ι H (kds (putKs ks k)) (putKv ks kv k v)
  | [], _, .nil => .cons r .nil
  | k' :: ks, _, .cons q t => by
    unfold putKs putKv
    by_cases e : k' = k
    · rw [if_pos e, if_pos e]; exact .cons q t
    · rw [if_neg e, if_neg e]; exact .cons q (putKv_rep r t)
theorem putKs_mem {k : NestedKey} : ∀ {ks : List NestedKey}, k ∈ putKs ks k ∧ ∀ x ∈ ks, x ∈ putKs ks k
  | [] => ⟨List.mem_singleton.mpr rfl, fun _ h => by cases h⟩
  | k' :: ks => by
    unfold putKs
    split
    · rename_i e
      exact ⟨by rw [e]; exact List.mem_cons_self .., fun _ h => h⟩
    · obtain ⟨a, b⟩ := putKs_mem (k := k) (ks := ks)
      refine ⟨List.mem_cons_of_mem _ a, fun x h => ?_⟩
      rcases List.mem_cons.mp h with e | h
      · rw [e]; exact List.mem_cons_self ..
      · exact List.mem_cons_of_mem _ (b x h)
theorem allT_no {ks : List NestedKey} {x : NestedKey} (m : x ∈ ks) (h : isT x = false) : allT ks = false := by
  cases z : allT ks with
  | false => rfl
  | true => rw [List.all_eq_true.mp z x m] at h; cases h
/-- the key of a store -/
def keyS (_ : List NestedKey) (k : D) : Option NestedKey := match k with
  | .int i => some (.num i)
  | k => keyT k
def rPut (w : World) (K : PySem.W.Frag) (Dd : Addr) : V → V → Hp → (Hp → Prop) → Prop := fun y z H q => rSetK w K (.ref Dd) y z H q ∨ rSetM w K (.ref Dd) y z H q
theorem setk_rep {ks : List NestedKey} {ds : List D} {kv vv : List V} {y z : D} {kk : NestedKey} {vy vz : V} {a : Addr} {o0 : Obj} {Nx : Hp → Prop} (e0 : H a = some (XO a o0)) (dk : DTu TheW.w o0 ks kv vv ∨ DIn TheW.w o0 ks kv vv) (e5 : (a == sysModules) = false) (rk : RepL K ι H (kds ks) kv) (qk : keyS ks y = some kk) (hz : ks.length < sizeLine) (ry : Rep K ι H y vy) (rv : RepL K ι H ds vv) (rz : Rep K ι H z vz)
    (k : ∀ ob kv' vv', DTu TheW.w ob (putKs ks kk) kv' vv' ∨ DIn TheW.w ob (putKs ks kk) kv' vv' → RepL K ι H (kds (putKs ks kk)) kv' → RepL K ι H (putL ks ds kk z) vv' → Nx (upd H a (XO a ob))) : rPut TheW.w K a vy vz H Nx := by
  have mixed : ∀ {kv vv : List V}, (∃ xs : List Ent, DEntM TheW.w o0 xs ∧ ks = xs.map (·.1) ∧ Vals kv (xs.map (·.2.1)) ∧ Vals vv (xs.map (·.2.2))) → RepL K ι H (kds ks) kv → RepL K ι H ds vv → NK K H kk vy → (∀ s, vy ≠ .str s) → kk.depth ≤ 8 → Rep K ι H (kd kk) vy → allT (putKs ks kk) = false →
      (∀ ob kv' vv', DTu TheW.w ob (putKs ks kk) kv' vv' ∨ DIn TheW.w ob (putKs ks kk) kv' vv' → RepL K ι H (kds (putKs ks kk)) kv' → RepL K ι H (putL ks ds kk z) vv' → Nx (upd H a (XO a ob))) → rSetM TheW.w K (.ref a) vy vz H Nx := by
    rintro kv vv ⟨xs, e1, e2, e3, e4⟩ rk rv nk ns dp rkk nt k
    subst e2
    refine ⟨a, kk, xs, o0, kv, rfl, nk, ns, dp, e0, e1, reps_nk (toKs_kds _) rk, e3, by rw [List.length_map] at hz; exact hz, fun u w ob ru rw' de => ?_⟩
    obtain ⟨s1, s2, s3⟩ := stM_put (k := kk) (u := u) rw' e3
    exact k ob _ (putL (xs.map (·.1)) vv kk vz) (.inr ⟨stM xs kk w u, de, s1.symm, s3, by rw [s2]; exact putL_rel ru e4, nt⟩) (putKv_rep rkk rk) (putL_rep rz rv)
  have asM : (∃ xs : List Ent, DEntM TheW.w o0 xs ∧ ks = xs.map (·.1) ∧ Vals kv (xs.map (·.2.1)) ∧ Vals vv (xs.map (·.2.2))) := by
    rcases dk with dk | ⟨xs, a1, a2, a3, a4, _⟩
    · exact dtu_m dk
    · exact ⟨xs, a1, a2, a3, a4⟩
  by_cases yi : ∃ i, y = .int i
  · obtain ⟨i, rfl⟩ := yi
    cases qk
    cases ry
    exact .inr (mixed asM rk rv (.int i) (fun s e => by cases e) (by show 0 ≤ 8; omega) (.int i) (allT_no putKs_mem.1 rfl) k)
  have qk1 : keyT y = some kk := by
    unfold keyS at qk
    split at qk
    · exact (yi ⟨_, rfl⟩).elim
    · exact qk
  obtain ⟨ey, d8, _⟩ := keyT_ok qk1
  obtain ⟨b, rfl, nk, dp⟩ := keyT_nk qk1 ry
  rcases dk with dk | ⟨xs, a1, a2, a3, a4, nt⟩
  · obtain ⟨xs, e1, e2, e3, e4⟩ := dk
    subst e2 e3
    have dkd : DKd TheW.w K H a xs := ⟨o0, e0, e1, e5, nks_all (reps_nk (toKs_kds _) rk)⟩
    have nd := e1.2.2.1
    refine .inl ⟨b, a, kk, xs, rfl, rfl, dkd, nk, dp, by rw [List.length_map] at hz; exact hz, fun u ob ru de => ?_⟩
    have se := stored_ks (b := b) (k := kk) (u := u) nd
    exact k ob _ (putL (xs.map (·.1)) vv kk vz) (.inl ⟨storedH xs kk b u, de, se.1.symm, rfl, by rw [se.2]; exact putL_rel ru e4⟩) (stored_kv (by rw [← ey]; exact ry) nd rk) (putL_rep rz rv)
  · have nt2 : allT (putKs ks kk) = false := by
      obtain ⟨x, hx, hn⟩ := List.all_eq_false.mp nt
      exact allT_no (putKs_mem.2 x hx) (by simpa using hn)
    exact .inr (mixed ⟨xs, a1, a2, a3, a4⟩ rk rv nk (fun s e => by cases e) dp (by rw [← ey]; exact ry) nt2 k)
end
/-! ### walks over the keys -/
def Itn (d : Addr) (o : Obj) (kv : List V) : It := ⟨fun i H => H d = some (XO d o) ∧ i < kv.length, fun i H x H' => H' = H ∧ kv[i]? = some x, fun i H => H d = some (XO d o) ∧ kv.length ≤ i⟩
section
variable {P : Program} {w : World} {K : PySem.W.Frag} {tg : Expr} {d : Addr} {o : Obj} {es : Array DictEntry} {ep : Nat} {kv : List V}
theorem vals_at : ∀ {vs : List V} {us : List Value} {i : Nat} {u : Value}, Vals vs us → us[i]? = some u → ∃ v, vs[i]? = some v ∧ RelV v u
  | _, _, i, _, .nil, q => by cases q
  | _, _, 0, _, .cons r _, q => by cases q; exact ⟨_, rfl, r⟩
  | _, _, i + 1, _, .cons _ t, q => vals_at (i := i) t q
theorem turn_keysN (it : Addr) (hod : o.data = .dict es ep) (he : Vals kv (es.toList.map (·.key))) : Turn P w K tg (Itn d o kv) [it] it (fun i h => h.IsKeyIter it d i es.size ep) where
  mem := by simp
  obj := fun i h st b hb => by
    have e : b = it := by simpa using hb
    subst e
    obtain ⟨oi, e, c, dd⟩ := st
    exact ⟨oi, e, fun v z => by rw [dd] at z; cases z⟩
  keep := fun i h h' st k => st.at fun oi e => k it (by simp) oi e
  item := by
    intro X hP hw hK hc i pins s σ H E I hf st hg
    subst hP hw hK
    obtain ⟨hd, hi⟩ := hg
    obtain ⟨f0, f1, f2, f3, f4, f5⟩ := hf it (by simp)
    obtain ⟨hgd, _⟩ := I.hok d _ hd
    have ln : kv.length = es.size := by have := he.length; rw [List.length_map, Array.length_toList] at this; exact this
    have hi2 : i < es.size := by omega
    obtain ⟨v, hv, rv⟩ := vals_at (i := i) (u := (es[i]).key) he (by rw [List.getElem?_map, Array.getElem?_toList, Array.getElem?_eq_getElem hi2]; rfl)
    refine next_key_item st hgd hod rfl (en := es[i]) (Array.getElem?_eq_getElem hi2) fun h' st' sb => ?_
    have I1 : Inv X pins σ H { s with heap := h' } := I.turned (t' := s.toks) (fun b ob hb e => (sb.2 b hb).trans e) f0 f1 f3 f4 f5
    obtain ⟨oi, e, c, dd⟩ := id st'
    exact ⟨_, rfl, go_of (s := { s with heap := h' }) e c dd (by decide) ⟨v, H, I1, rv, ⟨rfl, hv⟩, st', fun b hb => (hf b hb).1⟩⟩
  done := by
    intro X hP hw hK hc i pins s σ H E I hf st hg
    subst hP hw hK
    obtain ⟨hd, hi⟩ := hg
    have ln : kv.length = es.size := by have := he.length; rw [List.length_map, Array.length_toList] at this; exact this
    obtain ⟨f0, f1, f2, f3, f4, f5⟩ := hf it (by simp)
    obtain ⟨hgd, _⟩ := I.hok d _ hd
    exact next_key_end (I.ok.hd hc) st hgd hod rfl (by omega) fun h' eb => ⟨rfl, I.turned (t' := s.toks) (fun b ob hb e => eb b ob hb e) f0 f1 f3 f4 f5⟩
  self := fun A i s Q E st h => by
    refine wpAny_pyIter_slot st.typeIs PySem.F.slot_dict_keyiterator_iter (wpAny_call_entry PySem.F.slot_dict_keyiterator_iter st.typeIs PySem.F.entry_dict_keyiterator_iter ?_ (PySem.F.args_dict_keyiterator_iter_1 _))
    show wpAny _ _ (ret (.ref it)) _ _ s
    exact wpAny_pure ⟨_, rfl, "dict_keyiterator", _, st.typeIs, PySem.F.slot_dict_keyiterator_next.lookup, h⟩
end
theorem pi_or {X : Cx} {tg e : Expr} {t t' : TI} (h : PI X tg e t) (h' : PI X tg e t') : PI X tg e (fun σ H R => t σ H R ∨ t' σ H R) := ⟨fun pins s σ H R I z => z.elim (fun z => h.run pins s σ H R I z) fun z => h'.run pins s σ H R I z⟩
end Ev
/-! EvC: operators, comparisons, tests. -/
namespace Ev
open PySem PySem.Spec L2
variable [TheW]

/-! ### operators -/
@[irreducible] def mulOk (i j : Int) : Bool := decide (i.natAbs < 18446744073709551616) || decide (j.natAbs < 18446744073709551616) || decide (i.natAbs.log2 + j.natAbs.log2 < 1000000)
@[irreducible] def divOk (j : Int) : Bool := decide (0 < j) && decide (j.natAbs.log2 < 9000)
@[irreducible] def powOk (i j : Int) : Bool := decide (0 ≤ j) && decide (j ≤ 1000000) && decide (i.natAbs < 18446744073709551616)
@[irreducible] def repOk (n : Nat) (k : Int) : Bool := decide (0 ≤ k) && decide (k < 1000000) && decide (n * k.toNat ≤ sizeLine)
@[irreducible] def repTOk (n : Nat) (k : Int) : Bool := decide (-1000 ≤ k) && decide (k ≤ 1000) && decide (n ≤ 1000)
def bAddL (a b : Option (List D)) (h : Hs) : Res D := match a with
  | none => .bad
  | some xs => match b with
    | none => .bad
    | some ys => if xs.length + ys.length ≤ sizeLine then .ok (.lst (xs ++ ys)) h else .bad
def bAdd (x y : D) (h : Hs) : Res D := match x with
  | .int i => match y with
    | .int j => .ok (.int (i + j)) h
    | _ => .bad
  | .str i => match y with
    | .str j => if i.length + j.length ≤ sizeLine then .ok (.str (i ++ j)) h else .bad
    | _ => .bad
  | .tup xs => match y with
    | .tup ys => if xs.length + ys.length ≤ sizeLine then .ok (.tup (xs ++ ys)) h else .bad
    | _ => .bad
  | .lst xs => bAddL (some xs) (asM h y) h
  | .ref m => bAddL (lstAt h m) (asM h y) h
  | _ => .bad
def bSub (x y : D) (h : Hs) : Res D := match x with
  | .int i => match y with
    | .int j => .ok (.int (i - j)) h
    | _ => .bad
  | _ => .bad
def bMulL (a : Option (List D)) (y : D) (h : Hs) : Res D := match a with
  | none => .bad
  | some xs => match y with
    | .int k => if repOk xs.length k = true then .ok (.lst (List.replicate k.toNat xs).flatten) h else .bad
    | _ => .bad
def bMul (x y : D) (h : Hs) : Res D := match x with
  | .int i => match y with
    | .int j => if mulOk i j = true then .ok (.int (i * j)) h else .bad
    | _ => .bad
  | .tup xs => match y with
    | .int k => if repTOk xs.length k = true then .ok (.tup (List.replicate k.toNat xs).flatten) h else .bad
    | _ => .bad
  | .lst xs => bMulL (some xs) y h
  | .ref m => bMulL (lstAt h m) y h
  | _ => .bad
def bDiv (x y : D) (h : Hs) : Res D := match x with
  | .int i => match y with
    | .int j => if divOk j = true then .ok (.int (i / j)) h else .bad
    | _ => .bad
  | _ => .bad
def bMod (x y : D) (h : Hs) : Res D := match x with
  | .int i => match y with
    | .int j => if 0 < j then .ok (.int (i % j)) h else .bad
    | _ => .bad
  | _ => .bad
def bPow (x y : D) (h : Hs) : Res D := match x with
  | .int i => match y with
    | .int j => if powOk i j = true then .ok (.int (i ^ j.toNat)) h else .bad
    | _ => .bad
  | _ => .bad
/-- x op y -/
def bop (op : Operator) (x y : D) (h : Hs) : Res D := match op with
  | .Add => bAdd x y h
  | .Sub => bSub x y h
  | .Mult => bMul x y h
  | .FloorDiv => bDiv x y h
  | .Mod => bMod x y h
  | .Pow => bPow x y h
  | _ => .bad
def dBin (op : Operator) (a b : Den) : Den := fun e h => (a e h).bind fun x h => (b e h).bind fun y h => bop op x y h

def R2.or (a b : R2) : R2 := fun x y H Q => a x y H Q ∨ b x y H Q
def rOp (K : PySem.W.Frag) (op : Operator) : R2 := match op with
  | .Add => R2.or (rI0 fun i j => .int (i + j)) (R2.or (fun x y H Q => ∃ i j, x = .str i ∧ y = .str j ∧ i.length + j.length ≤ sizeLine ∧ Q (.str (i ++ j)) H) (R2.or (rCatA K) rCat))
  | .Sub => rI0 fun i j => .int (i - j)
  | .Mult => R2.or (rI (fun i j => CMul i j ∨ CMulW i j) fun i j => .int (i * j)) (R2.or (R2.or (rRepT K) (rRepU K)) rRep)
  | .FloorDiv => rI CDivW fun i j => .int (i / j)
  | .Mod => rI (fun _ j => 0 < j) fun i j => .int (i % j)
  | .Pow => rI CPow fun i j => .int (i ^ j.toNat)
  | _ => fun _ _ _ _ => False
section
variable {X : Cx}
theorem opNone {f : Value → Value → Sem Value} : OpR X f (fun _ _ _ _ => False) := fun _ _ _ _ _ _ _ _ _ _ _ _ z => z.elim
theorem op_mulB : OpR X (binaryOp .Mult) (rI (fun i j => CMul i j ∨ CMulW i j) fun i j => .int (i * j)) := by
  intro pins s σ H x y v u Q I rx ry ⟨i, j, e1, e2, c, q⟩
  rcases c with c | c
  · exact op_mul pins s σ H x y v u Q I rx ry ⟨i, j, e1, e2, c, q⟩
  · exact op_mulW pins s σ H x y v u Q I rx ry ⟨i, j, e1, e2, c, q⟩
theorem opr (op : Operator) : OpR X (binaryOp op) (rOp X.K op) := by
  cases op
  · exact op_add.or (op_add_str.or (op_catA.or op_cat))
  all_goals first | exact op_sub | exact op_mulB.or ((op_repT.or op_repU).or op_rep) | exact op_fdivW | exact op_mod | exact op_pow | exact opNone
theorem flat_rep {K : PySem.W.Frag} {ι : Io} {H : Hp} {ds : List D} {vs : List V} (r : RepL K ι H ds vs) : ∀ k : Nat, RepL K ι H (List.replicate k ds).flatten (List.replicate k vs).flatten
  | 0 => .nil
  | k + 1 => by
    rw [List.replicate_succ, List.replicate_succ, List.flatten_cons, List.flatten_cons]
    exact r.append (flat_rep r k)
variable {K : PySem.W.Frag} {ι : Io} {h : Hs} {H : Hp} {e : En} {σ : St} {d1 d2 : D} {v1 v2 : V} {Q : VK}
theorem RepL.nil_iff {ds : List D} {vs : List V} (r : RepL K ι H ds vs) : ds = [] ↔ vs = [] := by
  cases r
  · exact ⟨fun _ => rfl, fun _ => rfl⟩
  · exact ⟨fun z => (by cases z), fun z => (by cases z)⟩
theorem addL_ok {a b : Addr} {xs ys : List D} {vs ws : List V} (R : Rl K ι e h σ H) (ea : H a = some (.lst vs)) (ra : RepL K ι H xs vs) (eb : H b = some (.lst ws)) (rb : RepL K ι H ys ws) (k : Kd K ι h H e σ (bAddL (some xs) (some ys) h) Q) : rCat (.ref a) (.ref b) H Q := by
  unfold bAddL at k
  dsimp only at k
  by_cases hz : xs.length + ys.length ≤ sizeLine
  · rw [if_pos hz] at k
    exact ⟨a, b, vs, ws, rfl, rfl, ea, eb, by rw [← ra.length, ← rb.length]; exact hz, fun p hp => k.new R hp (.newL R.rh hp (ra.append rb))⟩
  · rw [if_neg hz] at k; exact k.elim
theorem bop_ok (op : Operator) (R : Rl K ι e h σ H) (r1 : Rep K ι H d1 v1) (r2 : Rep K ι H d2 v2) (k : Kd K ι h H e σ (bop op d1 d2 h) Q) : rOp K op v1 v2 H Q := by
  cases op <;> try exact k.elim
  · -- Add
    show R2.or _ _ _ _ _ _
    have k : Kd K ι h H e σ (bAdd d1 d2 h) Q := k
    unfold bAdd at k
    cases d1 <;> try exact k.elim
    · cases d2 <;> try exact k.elim
      cases r1; cases r2
      exact .inl ⟨_, _, rfl, rfl, k.here R (.int _)⟩
    · cases d2 <;> try exact k.elim
      cases r1; cases r2
      dsimp only at k
      split at k
      · exact .inr (.inl ⟨_, _, rfl, rfl, by assumption, k.here R (.str _)⟩)
      · exact k.elim
    · cases d2 <;> try exact k.elim
      cases r1 with
      | tup f1 t1 =>
        cases r2 with
        | tup f2 t2 =>
          dsimp only at k
          split at k
          · rename_i hz
            refine .inr (.inr (.inl ⟨_, _, _, _, rfl, rfl, f1.sq, f2.sq, by rw [← t1.length, ← t2.length]; exact hz, fun z => ?_, fun _ z => ?_, fun _ _ p hp => k.new R hp (.newT R.rh hp (t1.append t2))⟩))
            · rw [t1.nil_iff.mpr z, List.nil_append] at k
              exact k.here R (.tup f2 t2)
            · rw [t2.nil_iff.mpr z, List.append_nil] at k
              exact k.here R (.tup f1 t1)
          · exact k.elim
    · dsimp only at k
      cases q2 : asM h d2 with
      | none => rw [q2] at k; exact k.elim
      | some ys =>
        rw [q2] at k
        obtain ⟨b, ws, rfl, eb, rb⟩ := asM_rep R.rh q2 r2
        cases r1 with
        | lst f1 t1 => exact .inr (.inr (.inr (addL_ok R f1.1 t1 eb rb k)))
    · dsimp only at k
      rename_i m _
      cases q1 : lstAt h m with
      | none => rw [q1] at k; exact k.elim
      | some xs =>
        rw [q1] at k
        obtain ⟨a, vs, rfl, ea, ra, _⟩ := lstAt_rep R.rh q1 r1
        cases q2 : asM h d2 with
        | none => rw [q2] at k; exact k.elim
        | some ys =>
          rw [q2] at k
          obtain ⟨b, ws, rfl, eb, rb⟩ := asM_rep R.rh q2 r2
          exact .inr (.inr (.inr (addL_ok R ea ra eb rb k)))
  · -- Sub
    cases d1 <;> try exact k.elim
    cases d2 <;> try exact k.elim
    cases r1; cases r2
    exact ⟨_, _, rfl, rfl, Kg.here k R (.int _)⟩
  · -- Mult
    have k : Kd K ι h H e σ (bMul d1 d2 h) Q := k
    have mul : ∀ {a : Addr} {xs : List D} {vs : List V}, H a = some (.lst vs) → RepL K ι H xs vs → Kd K ι h H e σ (bMulL (some xs) d2 h) Q → rRep (.ref a) v2 H Q := fun {a xs vs} ea ra k => by
      cases d2 <;> try exact k.elim
      cases r2
      unfold bMulL at k
      dsimp only at k
      split at k
      · rename_i hz
        simp only [repOk, Bool.and_eq_true, decide_eq_true_eq] at hz
        exact ⟨a, _, vs, rfl, rfl, ea, by omega, by omega, by rw [← ra.length]; exact hz.2, fun p hp => k.new R hp (.newL R.rh hp (flat_rep ra _))⟩
      · exact k.elim
    unfold bMul at k
    cases d1 <;> try exact k.elim
    · cases d2 <;> try exact k.elim
      cases r1; cases r2
      dsimp only at k
      split at k
      · rename_i hz
        simp only [mulOk, Bool.or_eq_true, decide_eq_true_eq] at hz
        refine .inl ⟨_, _, rfl, rfl, ?_, k.here R (.int _)⟩
        rcases hz with (hz | hz) | hz
        · exact .inl (.inl (by omega))
        · exact .inl (.inr (by omega))
        · exact .inr hz
      · exact k.elim
    · cases d2 <;> try exact k.elim
      cases r1 with
      | tup f1 t1 =>
        cases r2
        dsimp only at k
        split at k
        · rename_i hz
          simp only [repTOk, Bool.and_eq_true, decide_eq_true_eq] at hz
          rename_i xs kk _ _ _
          by_cases h2 : 2 ≤ kk ∧ xs ≠ []
          · refine .inr (.inl (.inl ⟨_, _, _, rfl, rfl, f1.sq, fun z => ?_, h2.1, hz.1.2, by rw [← t1.length]; exact hz.2, fun p hp => k.new R hp (.newT R.rh hp (flat_rep t1 _))⟩))
            exact h2.2 (t1.nil_iff.mpr z)
          · refine .inr (.inl (.inr ⟨_, _, _, rfl, rfl, f1.sq, hz.1.1, hz.1.2, fun z => ?_, fun z z2 p hp => ?_, ?_⟩))
            · have e : (List.replicate kk.toNat xs).flatten = xs := by
                rcases z with z | z
                · rw [t1.nil_iff.mpr z]; simp
                · rw [z]; simp
              rw [e] at k
              exact k.here R (.tup f1 t1)
            · have e : (List.replicate kk.toNat xs).flatten = [] := by
                rw [Int.toNat_of_nonpos z2]; rfl
              rw [e] at k
              exact k.new R hp (.newT R.rh hp .nil)
            · by_cases w : xs = []
              · exact .inl (t1.nil_iff.mp w)
              · right
                have : ¬ 2 ≤ kk := fun z => h2 ⟨z, w⟩
                omega
        · exact k.elim
    · cases r1 with
      | lst f1 t1 => exact .inr (.inr (mul f1.1 t1 k))
    · rename_i m _
      dsimp only at k
      cases q1 : lstAt h m with
      | none => rw [q1] at k; exact k.elim
      | some xs =>
        rw [q1] at k
        obtain ⟨a, vs, rfl, ea, ra, _⟩ := lstAt_rep R.rh q1 r1
        exact .inr (.inr (mul ea ra k))
  · -- Mod
    cases d1 <;> try exact k.elim
    cases d2 <;> try exact k.elim
    cases r1; cases r2
    unfold bop bMod at k
    dsimp only at k
    split at k
    · exact ⟨_, _, rfl, rfl, by assumption, k.here R (.int _)⟩
    · exact k.elim
  · -- Pow
    cases d1 <;> try exact k.elim
    cases d2 <;> try exact k.elim
    cases r1; cases r2
    unfold bop bPow at k
    dsimp only at k
    split at k
    · rename_i hz
      simp only [powOk, Bool.and_eq_true, decide_eq_true_eq] at hz
      exact ⟨_, _, rfl, rfl, ⟨hz.1.1, hz.1.2, hz.2⟩, k.here R (.int _)⟩
    · exact k.elim
  · -- FloorDiv
    cases d1 <;> try exact k.elim
    cases d2 <;> try exact k.elim
    cases r1; cases r2
    unfold bop bDiv at k
    dsimp only at k
    split at k
    · rename_i hz
      simp only [divOk, Bool.and_eq_true, decide_eq_true_eq] at hz
      exact ⟨_, _, rfl, rfl, hz, k.here R (.int _)⟩
    · exact k.elim
end
section
variable {X : Cx} {a b c : Expr} {pos : Pos} {da db dc : Den}
/-- a part of an expression, then what follows -/
theorem s_bin {op : Operator} (ha : PE X a (rdE X.K da)) (hb : PE X b (rdE X.K db)) : PE X (.BinOp a op b pos) (rdE X.K (dBin op da db)) :=
  (pe_op (opr op) ha hb).wkn fun σ H Q ⟨ι, e, h, R, k⟩ => ⟨ι, e, h, R, (Kg.bind k).imp fun v H1 ⟨d, h1, ι1, n1⟩ => ⟨ι1, e, h1, n1.R, (Kg.bind n1.k).imp fun w H2 ⟨d2, h2, ι2, n2⟩ =>
    bop_ok op n2.R (n1.rr.ext n2.x) n2.rr n2.k⟩⟩
def bNeg (x : D) (h : Hs) : Res D := match x with
  | .int i => .ok (.int (-i)) h
  | _ => .bad
def dNeg (a : Den) : Den := fun e h => (a e h).bind bNeg
theorem s_neg (ha : PE X a (rdE X.K da)) : PE X (.UnaryOp .USub a pos) (rdE X.K (dNeg da)) :=
  (pe_un un_neg ha).wkn fun σ H Q ⟨ι, e, h, R, k⟩ => ⟨ι, e, h, R, (Kg.bind k).imp fun v H1 ⟨d, h1, ι1, n1⟩ => by
    have k1 := n1.k
    have r1 := n1.rr
    cases d <;> try exact k1.elim
    cases r1
    exact ⟨_, rfl, Kg.here k1 n1.R (.int _)⟩⟩

/-! ### comparisons -/
theorem mapO_rep {K : PySem.W.Frag} {ι : Io} {H : Hp} {f : D → Option PyData} : ∀ {ds : List D} {vs : List V} {es : List PyData}, (∀ d v x, d ∈ ds → Rep K ι H d v → f d = some x → Dp K H v x) → RepL K ι H ds vs → mapO f ds = some es → DpAll K H vs es
  | _, _, _, _, .nil, q => by cases q; exact .nil
  | d :: ds, v :: vs, es, hf, .cons r t, q => by
    unfold mapO at q
    cases q1 : f d with
    | none => rw [q1] at q; cases q
    | some x =>
      rw [q1] at q
      dsimp only at q
      cases q2 : mapO f ds with
      | none => rw [q2] at q; cases q
      | some xs =>
        rw [q2] at q
        cases q
        exact .cons (hf d v x (List.mem_cons_self ..) r q1) (mapO_rep (fun d v x hd => hf d v x (List.mem_cons_of_mem _ hd)) t q2)
mutual
theorem dat_rep {K : PySem.W.Frag} {ι : Io} {H : Hp} {f : Nat → Option PyData} (hf : ∀ m v x, Rep K ι H (.ref m) v → f m = some x → Dp K H v x) : ∀ (d : D) (v : V) (x : PyData), Rep K ι H d v → D.dat f d = some x → Dp K H v x
  | .non, _, _, .non, q => by cases q; exact .non
  | .bl b, _, _, .bl _, q => by cases q; exact .bl b
  | .int b, _, _, .int _, q => by cases q; exact .int b
  | .str b, _, _, .str _, q => by cases q; exact .str b
  | .ref m, v, x, r, q => hf m v x r q
  | .tup ds, _, x, .tup g t, q => by
    unfold D.dat at q
    cases q2 : D.datAll f ds with
    | none => rw [q2] at q; cases q
    | some xs => rw [q2] at q; cases q; exact .tup g.sq (datAll_rep hf ds _ xs t q2)
  | .lst ds, _, x, .lst g t, q => by
    unfold D.dat at q
    cases q2 : D.datAll f ds with
    | none => rw [q2] at q; cases q
    | some xs => rw [q2] at q; cases q; exact .lst (.of g.1) (datAll_rep hf ds _ xs t q2)
  | .scr ds, _, x, .scr g t, q => by
    unfold D.dat at q
    cases q2 : D.datAll f ds with
    | none => rw [q2] at q; cases q
    | some xs => rw [q2] at q; cases q; exact .lst g.sq (datAll_rep hf ds _ xs t q2)
theorem datAll_rep {K : PySem.W.Frag} {ι : Io} {H : Hp} {f : Nat → Option PyData} (hf : ∀ m v x, Rep K ι H (.ref m) v → f m = some x → Dp K H v x) : ∀ (ds : List D) (vs : List V) (xs : List PyData), RepL K ι H ds vs → D.datAll f ds = some xs → DpAll K H vs xs
  | [], _, _, .nil, q => by cases q; exact .nil
  | d :: ds, _, xs, .cons r t, q => by
    unfold D.datAll at q
    cases q1 : D.dat f d with
    | none => rw [q1] at q; cases q
    | some x =>
      cases q2 : D.datAll f ds with
      | none => rw [q1, q2] at q; cases q
      | some ys => rw [q1, q2] at q; cases q; exact .cons (dat_rep hf d _ x r q1) (datAll_rep hf ds _ ys t q2)
end
theorem data_rep {K : PySem.W.Frag} {ι : Io} {h : Hs} {H : Hp} (R : RH K ι h H) : ∀ (n : Nat) (d : D) (v : V) (x : PyData), Rep K ι H d v → data h n d = some x → Dp K H v x
  | 0, d, v, x, r, q => dat_rep (f := fun _ => none) (fun m v x _ z => by cases z) d v x r q
  | n + 1, d, v, x, r, q => dat_rep (fun m v x r q => by
      cases q1 : lstAt h m with
      | none => rw [q1] at q; cases q
      | some ds =>
        rw [q1] at q
        dsimp only at q
        obtain ⟨a, vs, rfl, ea, ra, _⟩ := lstAt_rep R q1 r
        cases q2 : mapO (data h n) ds with
        | none => rw [q2] at q; cases q
        | some xs =>
          rw [q2] at q
          cases q
          exact .lst (.of ea) (mapO_rep (fun d v x _ r q => data_rep R n d v x r q) ra q2)) d v x r q
abbrev dat (h : Hs) (d : D) : Option PyData := data h 8 d
/-- x == y -/
def eqO (x y : D) (h : Hs) : Option Bool := match dat h x with
  | none => none
  | some d => match dat h y with
    | none => none
    | some e => if SeqAt.shaped d = true then if SeqAt.shaped e = true then some (PyData.eqv d e) else none else none
theorem eqO_rep {K : PySem.W.Frag} {ι : Io} {h : Hs} {H : Hp} {x y : D} {v w : V} {c : Bool} (R : RH K ι h H) (q : eqO x y h = some c) (r1 : Rep K ι H x v) (r2 : Rep K ι H y w) : ∃ d e, Dp K H v d ∧ Dp K H w e ∧ SeqAt.shaped d = true ∧ SeqAt.shaped e = true ∧ c = PyData.eqv d e := by
  unfold eqO at q
  cases q1 : dat h x with
  | none => rw [q1] at q; cases q
  | some d =>
    rw [q1] at q
    dsimp only at q
    cases q2 : dat h y with
    | none => rw [q2] at q; cases q
    | some e =>
      rw [q2] at q
      dsimp only at q
      split at q
      · split at q
        · cases q
          exact ⟨d, e, data_rep R 8 x v d r1 q1, data_rep R 8 y w e r2 q2, by assumption, by assumption, rfl⟩
        · cases q
      · cases q
def isN (x : D) (h : Hs) : Option Bool := match x with
  | .non => some true
  | .ref m => match cellAt h m with
    | none => none
    | some _ => some false
  | _ => some false
def asS : D → Option Str
  | .str z => some z
  | _ => none
def eqS (x y : D) (h : Hs) : Option Bool := match asS x with
  | none => eqO x y h
  | some a => match asS y with
    | none => eqO x y h
    | some b => some (a == b)
def seqP : PyData → Option (List PyData)
  | .list xs => some xs
  | .tuple xs => some xs
  | _ => none
/-- x in y: one sign in a text; an item of a list or a tuple -/
def inD (x y : D) (h : Hs) : Option Bool := match dat h x with
  | none => none
  | some d => match dat h y with
    | none => none
    | some e => match seqP e with
      | none => none
      | some es => if SeqAt.shaped d = true then if SeqAt.shaped e = true then some (es.any fun z => PyData.eqv z d) else none else none
def inO' (x y : D) (h : Hs) : Option Bool := match asS y with
  | none => inD x y h
  | some z => match asS x with
    | none => none
    | some s => match s.cps.toList with
      | [c] => some (decide (c ∈ z.cps.toList))
      | _ => none
/-- a key in a dict -/
def inK (x : D) (ks : List NestedKey) : Option Bool := match keyD ks x with
  | none => none
  | some k => some (ks.any fun k' => decide (k' = k))
def inO (x y : D) (h : Hs) : Option Bool := match dctAt y h with
  | some p => inK x p.1
  | none => inO' x y h
def cop (op : CmpOp) (x y : D) (h : Hs) : Option Bool := match op with
  | .Eq => eqS x y h
  | .NotEq => (eqS x y h).map (!·)
  | .Lt => match x with
    | .int i => match y with
      | .int j => some (decide (i < j))
      | _ => none
    | _ => none
  | .LtE => match x with
    | .int i => match y with
      | .int j => some (decide (i ≤ j))
      | _ => none
    | _ => none
  | .Gt => match x with
    | .int i => match y with
      | .int j => some (decide (j < i))
      | _ => none
    | _ => none
  | .GtE => match x with
    | .int i => match y with
      | .int j => some (decide (j ≤ i))
      | _ => none
    | _ => none
  | .Is => match y with
    | .non => isN x h
    | _ => none
  | .IsNot => match y with
    | .non => (isN x h).map (!·)
    | _ => none
  | .In => inO x y h
  | .NotIn => (inO x y h).map (!·)
def rInP (K : PySem.W.Frag) (g : Bool → Bool) : R2 := fun x y H Q => ∃ d e es, Dp K H x d ∧ Dp K H y e ∧ seqP e = some es ∧ SeqAt.shaped d = true ∧ SeqAt.shaped e = true ∧ Q (.bl (g (es.any fun z => PyData.eqv z d))) H
def rInT (g : Bool → Bool) : R2 := fun x y H Q => ∃ (c : Nat) (z : Str), x = .str ⟨#[c]⟩ ∧ y = .str z ∧ Q (.bl (g (decide (c ∈ z.cps.toList)))) H
def rCm (K : PySem.W.Frag) (op : CmpOp) : R2 := match op with
  | .Eq => R2.or (rEqD K) rEq
  | .NotEq => R2.or (rNeD K) rNe
  | .Lt => rI0 fun i j => .bl (decide (i < j))
  | .LtE => rI0 fun i j => .bl (decide (i ≤ j))
  | .Gt => rI0 fun i j => .bl (decide (j < i))
  | .GtE => rI0 fun i j => .bl (decide (j ≤ i))
  | .Is => fun x y H Q => y = .non ∧ Q (.bl (decide (x = .non))) H
  | .IsNot => fun x y H Q => y = .non ∧ Q (.bl (!decide (x = .non))) H
  | .In => R2.or (R2.or (rInP K id) (rInT id)) (rInK TheW.w K id)
  | .NotIn => R2.or (R2.or (rInP K (!·)) (rInT (!·))) (rInK TheW.w K (!·))
theorem room_in {A : Around} {d : PyData} {n : Nat} (h : SeqAt.shaped d = true) (hu : A.units + 65 < cLine) : A.units + 1 + min n d.depth < cLine := by
  have h1 := SeqAt.depth_of_shaped h
  have h2 : min n d.depth ≤ d.depth := Nat.min_le_right _ _
  omega
theorem op_inP (hu : X.A.units + 65 < cLine) : OpR X (compareOp .In) (rInP X.K id) := by
  intro pins s σ H x y v u Q I rx ry h
  obtain ⟨d, e, es, hd, he, hs, sd, se, q⟩ := h
  obtain ⟨as, r1⟩ := Dp.reads I d x v hd rx
  obtain ⟨bs, r2⟩ := Dp.reads I e y u he ry
  cases e <;> cases hs
  · exact SeqAt.in_list_reads r2 r1 (SeqAt.canLay_of_shaped se) (SeqAt.canLay_of_shaped sd) (room_in sd hu) ⟨.bl _, H, I, rfl, q⟩
  · exact SeqAt.in_tuple_reads r2 r1 (SeqAt.canLay_of_shaped se) (SeqAt.canLay_of_shaped sd) (room_in sd hu) ⟨.bl _, H, I, rfl, q⟩
theorem op_notInP (hu : X.A.units + 65 < cLine) : OpR X (compareOp .NotIn) (rInP X.K (!·)) := by
  intro pins s σ H x y v u Q I rx ry h
  obtain ⟨d, e, es, hd, he, hs, sd, se, q⟩ := h
  obtain ⟨as, r1⟩ := Dp.reads I d x v hd rx
  obtain ⟨bs, r2⟩ := Dp.reads I e y u he ry
  cases e <;> cases hs
  · exact SeqAt.notIn_list_reads r2 r1 (SeqAt.canLay_of_shaped se) (SeqAt.canLay_of_shaped sd) (room_in sd hu) ⟨.bl _, H, I, rfl, q⟩
  · exact SeqAt.notIn_tuple_reads r2 r1 (SeqAt.canLay_of_shaped se) (SeqAt.canLay_of_shaped sd) (room_in sd hu) ⟨.bl _, H, I, rfl, q⟩
theorem opOr {f : Value → Value → Sem Value} {r1 r2 : R2} (a : OpR X f r1) (b : OpR X f r2) : OpR X f (R2.or r1 r2) := by
  intro pins s σ H x y v u Q I rx ry h
  rcases h with h | h
  · exact a pins s σ H x y v u Q I rx ry h
  · exact b pins s σ H x y v u Q I rx ry h
theorem eqS_ok {K : PySem.W.Frag} {ι : Io} {h : Hs} {H : Hp} {x y : D} {v w : V} {c : Bool} (R : RH K ι h H) (q : eqS x y h = some c) (r1 : Rep K ι H x v) (r2 : Rep K ι H y w) : (∃ d e, Dp K H v d ∧ Dp K H w e ∧ SeqAt.shaped d = true ∧ SeqAt.shaped e = true ∧ c = PyData.eqv d e) ∨ (scal v w = true ∧ c = decide (v = w)) := by
  unfold eqS at q
  cases q1 : asS x with
  | none => rw [q1] at q; exact .inl (eqO_rep R q r1 r2)
  | some a =>
    rw [q1] at q
    dsimp only at q
    cases q2 : asS y with
    | none => rw [q2] at q; exact .inl (eqO_rep R q r1 r2)
    | some b =>
      rw [q2] at q
      cases x <;> cases q1
      cases y <;> cases q2
      cases r1; cases r2; cases q
      exact .inr ⟨rfl, dec_str.symm⟩
theorem cmr (hu : X.A.units + 65 < cLine ∧ TheW.w = X.w) (op : CmpOp) : OpR X (compareOp op) (rCm X.K op) := by
  cases op
  · exact opOr (op_eqD (by have := hu.1; omega)) op_eq
  · exact opOr (op_neD (by have := hu.1; omega)) op_ne
  · exact op_lt
  · exact op_le
  · exact op_gt
  · exact op_ge
  · exact op_isN
  · exact op_notN
  · unfold rCm; rw [hu.2]; exact opOr (opOr (op_inP hu.1) op_in_sign) (op_inK hu.1)
  · unfold rCm; rw [hu.2]; exact opOr (opOr (op_notInP hu.1) op_notIn_sign) (op_ninK hu.1)
theorem isN_ok {K : PySem.W.Frag} {ι : Io} {h : Hs} {H : Hp} {x : D} {v : V} {c : Bool} (R : RH K ι h H) (q : isN x h = some c) (r : Rep K ι H x v) : decide (v = .non) = c := by
  cases x with
  | non => cases r; cases q; rfl
  | ref m =>
    unfold isN at q
    dsimp only at q
    cases q1 : cellAt h m with
    | none => rw [q1] at q; cases q
    | some ds =>
      rw [q1] at q; cases q
      obtain ⟨a, rfl, _⟩ := cellAt_rep R q1 r
      rfl
  | ins _ _ _ => cases r; cases q; rfl
  | dct _ _ => cases r; cases q; rfl
  | cls _ => cases r; cases q; rfl
  | exc _ _ _ => cases r; cases q; rfl
  | fnv _ => cases r; cases q; rfl
  | bl _ => cases r; cases q; rfl
  | int _ => cases r; cases q; rfl
  | str _ => cases r; cases q; rfl
  | tup _ => cases r; cases q; rfl
  | lst _ => cases r; cases q; rfl
  | scr _ => cases r; cases q; rfl
theorem inO'_ok {K : PySem.W.Frag} {ι : Io} {h : Hs} {H : Hp} {x y : D} {v w : V} {c : Bool} {Q : VK} (g : Bool → Bool) (R : RH K ι h H) (q : inO' x y h = some c) (r1 : Rep K ι H x v) (r2 : Rep K ι H y w) (k : Q (.bl (g c)) H) : R2.or (rInP K g) (rInT g) v w H Q := by
  unfold inO' at q
  cases qy : asS y with
  | none =>
    rw [qy] at q
    dsimp only at q
    unfold inD at q
    cases q1 : dat h x with
    | none => rw [q1] at q; cases q
    | some d =>
      rw [q1] at q
      dsimp only at q
      cases q2 : dat h y with
      | none => rw [q2] at q; cases q
      | some e =>
        rw [q2] at q
        dsimp only at q
        cases q3 : seqP e with
        | none => rw [q3] at q; cases q
        | some es =>
          rw [q3] at q
          dsimp only at q
          split at q
          · split at q
            · cases q
              exact .inl ⟨d, e, es, data_rep R 8 x v d r1 q1, data_rep R 8 y w e r2 q2, q3, by assumption, by assumption, k⟩
            · cases q
          · cases q
  | some z =>
    rw [qy] at q
    dsimp only at q
    cases qx : asS x with
    | none => rw [qx] at q; cases q
    | some s =>
      rw [qx] at q
      dsimp only at q
      cases x <;> cases qx
      cases y <;> cases qy
      split at q
      · rename_i c' hc
        cases q
        cases r1
        cases r2
        refine .inr ⟨c', z, ?_, rfl, k⟩
        obtain ⟨cps⟩ := s
        have e : cps = #[c'] := by
          have : cps.toList = [c'] := hc
          rw [← Array.toArray_toList (xs := cps), this]
        rw [e]
      · cases q
theorem atKey_any {xs : List (NestedKey × Addr × Value)} {k : NestedKey} : (atKey xs k).isSome = (xs.map (·.1)).any fun k' => decide (k' = k) := by
  unfold atKey
  rw [Option.isSome_map]
  induction xs with
  | nil => rfl
  | cons x xs ih =>
    rw [List.find?_cons, List.map_cons, List.any_cons]
    cases decide (x.1 = k) with
    | true => rfl
    | false => exact ih
theorem inO_ok {K : PySem.W.Frag} {ι : Io} {h : Hs} {H : Hp} {x y : D} {v w : V} {c : Bool} {Q : VK} (g : Bool → Bool) (R : RH K ι h H) (q : inO x y h = some c) (r1 : Rep K ι H x v) (r2 : Rep K ι H y w) (k : Q (.bl (g c)) H) : R2.or (R2.or (rInP K g) (rInT g)) (rInK TheW.w K g) v w H Q := by
  unfold inO at q
  cases qd : dctAt y h with
  | none => rw [qd] at q; exact .inl (inO'_ok g R q r1 r2 k)
  | some p =>
    rw [qd] at q
    dsimp only at q
    unfold inK at q
    obtain ⟨ks, ds⟩ := p
    dsimp only at q
    cases qk : keyD ks x with
    | none => rw [qk] at q; cases q
    | some kk =>
      rw [qk] at q
      cases q
      obtain ⟨qk, hT⟩ := keyD_ok qk
      obtain ⟨d, vv, xs, rfl, dk, ek, _, _⟩ := rep_dk R qd hT r2
      obtain ⟨b, rfl, nk, dp⟩ := keyT_nk qk r1
      refine .inr ⟨b, d, kk, xs, rfl, rfl, dk, nk, dp, ?_⟩
      rw [atKey_any, ← ek]
      exact k
theorem cop_ok {K : PySem.W.Frag} {ι : Io} {h : Hs} {H : Hp} {x y : D} {v w : V} {c : Bool} {Q : VK} (op : CmpOp) (R : RH K ι h H) (q : cop op x y h = some c) (r1 : Rep K ι H x v) (r2 : Rep K ι H y w) (k : Q (.bl c) H) : rCm K op v w H Q := by
  cases op <;> unfold cop at q <;> dsimp only at q <;> try cases q
  · rcases eqS_ok R q r1 r2 with ⟨d, e, a1, a2, a3, a4, rfl⟩ | ⟨a1, rfl⟩
    · exact .inl ⟨d, e, a1, a2, a3, a4, k⟩
    · exact .inr ⟨a1, k⟩
  · cases z : eqS x y h with
    | none => rw [z] at q; cases q
    | some b =>
      rw [z] at q; cases q
      rcases eqS_ok R z r1 r2 with ⟨d, e, a1, a2, a3, a4, rfl⟩ | ⟨a1, rfl⟩
      · exact .inl ⟨d, e, a1, a2, a3, a4, k⟩
      · exact .inr ⟨a1, k⟩
  · cases x <;> try cases q
    cases y <;> try cases q
    cases r1; cases r2
    exact ⟨_, _, rfl, rfl, k⟩
  · cases x <;> try cases q
    cases y <;> try cases q
    cases r1; cases r2
    exact ⟨_, _, rfl, rfl, k⟩
  · cases x <;> try cases q
    cases y <;> try cases q
    cases r1; cases r2
    exact ⟨_, _, rfl, rfl, k⟩
  · cases x <;> try cases q
    cases y <;> try cases q
    cases r1; cases r2
    exact ⟨_, _, rfl, rfl, k⟩
  · cases y <;> try cases q
    cases r2
    exact ⟨rfl, by rw [isN_ok R q r1]; exact k⟩
  · cases y <;> try cases q
    cases r2
    cases z : isN x h with
    | none => rw [z] at q; cases q
    | some b => rw [z] at q; cases q; exact ⟨rfl, by rw [isN_ok R z r1]; exact k⟩
  · exact inO_ok id R q r1 r2 k
  · cases z : inO x y h with
    | none => rw [z] at q; cases q
    | some b => rw [z] at q; cases q; exact inO_ok (!·) R z r1 r2 k
def cmp2 (op : CmpOp) (x y : D) (h : Hs) : Res Bool := .of (cop op x y h) h
def tCm (op : CmpOp) (a b : Den) : DenT := fun e h => (a e h).bind fun x h => (b e h).bind fun y h => cmp2 op x y h
def tChn (o1 o2 : CmpOp) (a b c : Den) : DenT := fun e h => (a e h).bind fun x h => (b e h).bind fun y h => (cmp2 o1 x y h).bind fun k h => if k = true then (c e h).bind fun z h => cmp2 o2 y z h else .ok false h
/-- a test's answer as a value -/
def dOf (t : DenT) : Den := fun e h => (t e h).bind fun b h => .ok (.bl b) h
theorem Kg.of_some {β : Type} {RR : Io → Hp → Bool → β → Prop} {K : PySem.W.Frag} {ι : Io} {h : Hs} {H : Hp} {e : En} {σ : St} {o : Option Bool} {Q : β → Hp → Prop} (k : Kg RR K ι h H e σ (.of o h) Q) : ∃ c, o = some c ∧ Kg RR K ι h H e σ (.ok c h) Q := by
  cases o with
  | none => exact k.elim
  | some c => exact ⟨c, rfl, k⟩
theorem Res.bind_assoc {α β γ : Type} (r : Res α) (f : α → Hs → Res β) (g : β → Hs → Res γ) : (r.bind f).bind g = r.bind fun a h => (f a h).bind g := by cases r <;> rfl
theorem marks (op : CmpOp) (h : op ≠ .In) (h2 : op ≠ .NotIn) (b : Expr) : behindInMarks op b = false := nobehind b h h2
/-- no set is written behind in -/
def okOp (op : CmpOp) (b : Expr) : Bool := !behindInMarks op b
theorem okOp_marks {op : CmpOp} {b : Expr} (h : okOp op b = true) : behindInMarks op b = false := by
  unfold okOp at h
  cases z : behindInMarks op b with
  | false => rfl
  | true => rw [z] at h; cases h
theorem s_cmp {op : CmpOp} (hu : X.A.units + 65 < cLine ∧ TheW.w = X.w) (hp : okOp op b = true) (ha : PE X a (rdE X.K da)) (hb : PE X b (rdE X.K db)) : PE X (.Compare a [op] [b] pos) (rdE X.K (dOf (tCm op da db))) := by
  refine (pe_cmpR (cmr hu op) ha hb (okOp_marks hp)).wkn fun σ H Q ⟨ι, e, h, R, k⟩ => ?_
  unfold dOf tCm at k
  rw [Res.bind_assoc] at k
  refine ⟨ι, e, h, R, (Kg.bind k).imp fun v H1 ⟨d, h1, ι1, n1⟩ => ?_⟩
  have k1 := n1.k
  rw [Res.bind_assoc] at k1
  refine ⟨ι1, e, h1, n1.R, (Kg.bind k1).imp fun w H2 ⟨d2, h2, ι2, n2⟩ => ?_⟩
  have k2 := n2.k
  cases q : cop op d d2 h2 with
  | none => unfold cmp2 at k2; rw [q] at k2; exact k2.elim
  | some c =>
    unfold cmp2 at k2; rw [q] at k2
    exact cop_ok op n2.R.rh q (n1.rr.ext n2.x) n2.rr (Kg.here k2 n2.R (.bl c))
theorem t_cmp {op : CmpOp} (hu : X.A.units + 65 < cLine ∧ TheW.w = X.w) (hp : okOp op b = true) (ha : PE X a (rdE X.K da)) (hb : PE X b (rdE X.K db)) : PT X (.Compare a [op] [b] pos) (rdT X.K (tCm op da db)) := by
  refine (pt_cmpR (cmr hu op) ha hb (okOp_marks hp)).wkn fun σ H Q ⟨ι, e, h, R, k⟩ => ?_
  refine ⟨ι, e, h, R, (Kg.bind k).imp fun v H1 ⟨d, h1, ι1, n1⟩ => ?_⟩
  refine ⟨ι1, e, h1, n1.R, (Kg.bind n1.k).imp fun w H2 ⟨d2, h2, ι2, n2⟩ => ?_⟩
  obtain ⟨c, q, k2⟩ := Kg.of_some n2.k
  exact cop_ok (Q := fun x H' => ∃ k, x = .bl k ∧ Q k H') op n2.R.rh q (n1.rr.ext n2.x) n2.rr ⟨c, rfl, k2.here n2.R rfl⟩
theorem chain_core {o1 o2 : CmpOp} {σ : St} {H : Hp} {ι : Io} {e : En} {h : Hs} {W : VK} (R : Rl X.K ι e h σ H) (k : Kb X.K ι h H e σ (tChn o1 o2 da db dc e h) fun b H' => W (.bl b) H') : tChain (rCm X.K o1) (rCm X.K o2) (rdE X.K da) (rdE X.K db) (rdE X.K dc) σ H W := by
  refine ⟨ι, e, h, R, (Kg.bind k).imp fun v H1 ⟨d, h1, ι1, n1⟩ => ?_⟩
  refine ⟨ι1, e, h1, n1.R, (Kg.bind n1.k).imp fun w H2 ⟨d2, h2, ι2, n2⟩ => ?_⟩
  have k2 := n2.k
  unfold cmp2 at k2
  cases q : cop o1 d d2 h2 with
  | none => rw [q] at k2; exact k2.elim
  | some c =>
    rw [q] at k2
    refine cop_ok o1 n2.R.rh q (n1.rr.ext n2.x) n2.rr ⟨c, rfl, ?_⟩
    cases c with
    | false => exact Kg.here (RR := RB) (Q := fun b H' => W (.bl b) H') k2 n2.R rfl
    | true =>
      have k2 : Kb X.K ι2 h2 H2 e σ ((dc e h2).bind fun z h => .of (cop o2 d2 z h) h) (fun b H' => W (.bl b) H') := k2
      refine ⟨ι2, e, h2, n2.R, (Kg.bind k2).imp fun z H3 ⟨d3, h3, ι3, n3⟩ => ?_⟩
      obtain ⟨c, q, k3⟩ := Kg.of_some n3.k
      exact cop_ok o2 n3.R.rh q (n2.rr.ext n3.x) n3.rr (k3.here n3.R rfl)
theorem Kd.test {K : PySem.W.Frag} {ι : Io} {h : Hs} {H : Hp} {e : En} {σ : St} {r : Res Bool} {Q : VK} (k : Kd K ι h H e σ (r.bind fun b h => .ok (.bl b) h) Q) : Kb K ι h H e σ r fun b H' => Q (.bl b) H' := by
  cases r with
  | ok b h' =>
    intro ι' H' c x R rr
    cases rr
    exact k ι' H' _ x R (.bl b)
  | err _ _ => exact k
  | bad => exact k
theorem s_chain {o1 o2 : CmpOp} (hu : X.A.units + 65 < cLine ∧ TheW.w = X.w) (hp : okOp o2 c = true) (ha : PE X a (rdE X.K da)) (hb : PE X b (rdE X.K db)) (hc : PE X c (rdE X.K dc)) : PE X (.Compare a [o1, o2] [b, c] pos) (rdE X.K (dOf (tChn o1 o2 da db dc))) :=
  (pe_chain (cmr hu o1) (cmr hu o2) ha hb hc (okOp_marks hp)).wkn fun σ H Q ⟨ι, e, h, R, k⟩ => chain_core R (Kd.test k)
theorem t_chain {o1 o2 : CmpOp} (hu : X.A.units + 65 < cLine ∧ TheW.w = X.w) (hp : okOp o2 c = true) (ha : PE X a (rdE X.K da)) (hb : PE X b (rdE X.K db)) (hc : PE X c (rdE X.K dc)) : PT X (.Compare a [o1, o2] [b, c] pos) (rdT X.K (tChn o1 o2 da db dc)) :=
  (pt_chain (cmr hu o1) (cmr hu o2) ha hb hc (okOp_marks hp)).wkn fun σ H Q ⟨ι, e, h, R, k⟩ => chain_core R (k.imp fun b H' q => ⟨b, rfl, q⟩)

/-! ### tests -/
def tru (x : D) (h : Hs) : Option Bool := match x with
  | .non => some false
  | .bl b => some b
  | .int i => some (i != 0)
  | .str s => if s.length ≤ sizeLine then some ((s.length : Int) != 0) else none
  | .tup xs => some (!xs.isEmpty)
  | .lst xs => some (!xs.isEmpty)
  | .scr xs => some (!xs.isEmpty)
  | .ref m => (lstAt h m).map fun xs => !xs.isEmpty
  | _ => none
theorem RepL.isEmpty {K : PySem.W.Frag} {ι : Io} {H : Hp} {ds : List D} {vs : List V} (r : RepL K ι H ds vs) : (!ds.isEmpty) = !vs.isEmpty := by cases r <;> rfl
theorem tru_rep {K : PySem.W.Frag} {ι : Io} {h : Hs} {H : Hp} {x : D} {v : V} {c : Bool} (R : RH K ι h H) (q : tru x h = some c) (r : Rep K ι H x v) : TruV K v H c := by
  cases x with
  | non => cases r; cases q; exact rfl
  | bl b => cases r; cases q; exact rfl
  | int i => cases r; cases q; exact rfl
  | str s =>
    cases r
    unfold tru at q
    dsimp only at q
    split at q
    · cases q; exact ⟨by assumption, rfl⟩
    · cases q
  | tup xs =>
    cases r with
    | tup f t => cases q; exact .inr (.inl ⟨_, f.sq, t.isEmpty⟩)
  | lst xs =>
    cases r with
    | lst f t => cases q; exact .inl ⟨_, .of f.1, t.isEmpty⟩
  | scr xs =>
    cases r with
    | scr f t => cases q; exact .inl ⟨_, f.sq, t.isEmpty⟩
  | ref m =>
    unfold tru at q
    dsimp only at q
    cases q1 : lstAt h m with
    | none => rw [q1] at q; cases q
    | some xs =>
      rw [q1] at q; cases q
      obtain ⟨a, vs, rfl, ea, ra, _⟩ := lstAt_rep R q1 r
      exact .inl ⟨_, .of ea, ra.isEmpty⟩
  | ins _ _ _ => cases q
  | dct _ _ => cases q
  | cls _ => cases q
  | exc _ _ _ => cases q
  | fnv _ => cases q
def tTru (a : Den) : DenT := fun e h => (a e h).bind fun x h => .of (tru x h) h
def tNt (t : DenT) : DenT := fun e h => (t e h).bind fun b h => .ok (!b) h
def tAn (t u : DenT) : DenT := fun e h => (t e h).bind fun b h => if b = true then u e h else .ok false h
def tOr' (t u : DenT) : DenT := fun e h => (t e h).bind fun b h => if b = true then .ok true h else u e h
theorem t_truth (ha : PE X a (rdE X.K da)) (he : ∀ whole, isTrue a X.env whole = (do let v ← whole; standAt a.pos; holding [v] (truthy v))) : PT X a (rdT X.K (tTru da)) := by
  refine (pt_truth ha he).wkn fun σ H Q ⟨ι, e, h, R, k⟩ => ⟨ι, e, h, R, (Kg.bind k).imp fun v H1 ⟨d, h1, ι1, n1⟩ => ?_⟩
  obtain ⟨c, q, k1⟩ := Kg.of_some n1.k
  exact ⟨c, tru_rep n1.R.rh q n1.rr, k1.here n1.R rfl⟩
variable {ta tb : DenT}
theorem t_not (ha : PT X a (rdT X.K ta)) : PT X (.UnaryOp .Not a pos) (rdT X.K (tNt ta)) :=
  (pt_not ha).wkn fun σ H Q ⟨ι, e, h, R, k⟩ => ⟨ι, e, h, R, (Kg.bind k).imp fun v H1 ⟨d, h1, ι1, n1⟩ => by
    cases n1.rr
    exact n1.k.here n1.R rfl⟩
theorem w_and1 {ta : DenT} (ha : PT X a (rdT X.K ta)) : PW X (.BoolOp .And [a] pos) (rdT X.K ta) := pw_and1 ha
theorem _root_.L2.PW.wkn {e : Expr} {t t' : TT} (p : PW X e t) (i : ∀ σ H Q, t' σ H Q → t σ H Q) : PW X e t' := ⟨fun w pins s σ H Q I q => p.run w pins s σ H Q I (i _ _ _ q)⟩
theorem w_and {rest : List Expr} (ha : PT X a (rdT X.K ta)) (hb : PW X (.BoolOp .And (b :: rest) pos) (rdT X.K tb)) : PW X (.BoolOp .And (a :: b :: rest) pos) (rdT X.K (tAn ta tb)) :=
  (pw_and ha hb).wkn fun σ H Q ⟨ι, e, h, R, k⟩ => ⟨ι, e, h, R, (Kg.bind k).imp fun v H1 ⟨d, h1, ι1, n1⟩ => by
    have k1 := n1.k
    cases n1.rr
    cases v with
    | true => exact ⟨ι1, e, h1, n1.R, k1⟩
    | false => exact Kg.here k1 n1.R rfl⟩
theorem w_or {rest : List Expr} (ha : PT X a (rdT X.K ta)) (hb : PW X (.BoolOp .Or (b :: rest) pos) (rdT X.K tb)) : PW X (.BoolOp .Or (a :: b :: rest) pos) (rdT X.K (tOr' ta tb)) :=
  (pw_or ha hb).wkn fun σ H Q ⟨ι, e, h, R, k⟩ => ⟨ι, e, h, R, (Kg.bind k).imp fun v H1 ⟨d, h1, ι1, n1⟩ => by
    have k1 := n1.k
    cases n1.rr
    cases v with
    | false => exact ⟨ι1, e, h1, n1.R, k1⟩
    | true => exact Kg.here k1 n1.R rfl⟩
/-! ### and, or, not as values (all but the last are True or False) -/
def asB : D → Option Bool
  | .bl b => some b
  | _ => none
def dAn (a b : Den) : Den := fun e h => (a e h).bind fun x h => match asB x with
  | none => .bad
  | some c => if c = true then b e h else .ok (.bl false) h
def dOr (a b : Den) : Den := fun e h => (a e h).bind fun x h => match asB x with
  | none => .bad
  | some c => if c = true then .ok (.bl true) h else b e h
def dNt (a : Den) : Den := fun e h => (a e h).bind fun x h => match tru x h with
  | none => .bad
  | some c => .ok (.bl (!c)) h
theorem v_and {rest : List Expr} (ha : PE X a (rdE X.K da)) (hb : PE X (.BoolOp .And (b :: rest) pos) (rdE X.K db)) : PE X (.BoolOp .And (a :: b :: rest) pos) (rdE X.K (dAn da db)) :=
  (pe_and ha hb).wkn fun σ H Q ⟨ι, e, h, R, k⟩ => ⟨ι, e, h, R, (Kg.bind k).imp fun v H1 ⟨d, h1, ι1, n1⟩ => by
    have k1 := n1.k
    have r1 := n1.rr
    cases d <;> try exact k1.elim
    rename_i c
    cases r1
    cases c with
    | true => exact ⟨true, rfl, ι1, e, h1, n1.R, k1⟩
    | false => exact ⟨false, rfl, Kg.here k1 n1.R (.bl false)⟩⟩
theorem v_or {rest : List Expr} (ha : PE X a (rdE X.K da)) (hb : PE X (.BoolOp .Or (b :: rest) pos) (rdE X.K db)) : PE X (.BoolOp .Or (a :: b :: rest) pos) (rdE X.K (dOr da db)) :=
  (pe_or ha hb).wkn fun σ H Q ⟨ι, e, h, R, k⟩ => ⟨ι, e, h, R, (Kg.bind k).imp fun v H1 ⟨d, h1, ι1, n1⟩ => by
    have k1 := n1.k
    have r1 := n1.rr
    cases d <;> try exact k1.elim
    rename_i c
    cases r1
    cases c with
    | false => exact ⟨false, rfl, ι1, e, h1, n1.R, k1⟩
    | true => exact ⟨true, rfl, Kg.here k1 n1.R (.bl true)⟩⟩
theorem v_not (ha : PE X a (rdE X.K da)) : PE X (.UnaryOp .Not a pos) (rdE X.K (dNt da)) :=
  (pe_notT ha).wkn fun σ H Q ⟨ι, e, h, R, k⟩ => ⟨ι, e, h, R, (Kg.bind k).imp fun v H1 ⟨d, h1, ι1, n1⟩ => by
    have k1 := n1.k
    cases q : tru d h1 with
    | none => rw [q] at k1; exact k1.elim
    | some c => rw [q] at k1; exact ⟨c, tru_rep n1.R.rh q n1.rr, Kg.here k1 n1.R (.bl _)⟩⟩
def dIf (t : DenT) (a b : Den) : Den := fun e h => (t e h).bind fun c h => if c = true then a e h else b e h
theorem s_if (ht : PT X c (rdT X.K ta)) (ha : PE X a (rdE X.K da)) (hb : PE X b (rdE X.K db)) : PE X (.IfExp c a b pos) (rdE X.K (dIf ta da db)) :=
  (pe_ifExp ht ha hb).wkn fun σ H Q ⟨ι, e, h, R, k⟩ => ⟨ι, e, h, R, (Kg.bind k).imp fun v H1 ⟨d, h1, ι1, n1⟩ => by
    have k1 := n1.k
    cases n1.rr
    cases v with
    | true => exact ⟨ι1, e, h1, n1.R, k1⟩
    | false => exact ⟨ι1, e, h1, n1.R, k1⟩⟩
end
end Ev
/-! EvD: items, slices, calls of what is built in. -/
namespace Ev
open PySem PySem.Spec L2
variable [TheW]

section
variable {X : Cx} {a b c : Expr} {pos : Pos} {da db dc : Den} {K : PySem.W.Frag} {ι : Io} {h : Hs} {H : Hp} {e : En} {σ : St} {Q : VK}
theorem RepL.atI {ds : List D} {vs : List V} {i : Int} {d : D} (r : RepL K ι H ds vs) (q : atI ds i = some d) : ∃ v, L2.atI vs i = some v ∧ Rep K ι H d v := by
  unfold L2.atI at q ⊢
  rw [← r.length]
  cases z : ixN ds.length i with
  | none => rw [z] at q; cases q
  | some j =>
    rw [z] at q
    exact r.get q
/-- x[i] -/
def ixO (x i : D) (h : Hs) : Option D := match i with
  | .int k => match x with
    | .tup xs => atI xs k
    | .str s => if s.length ≤ sizeLine then (atI s.cps.toList k).map fun c => .str ⟨#[c]⟩ else none
    | .lst xs => atI xs k
    | .scr xs => atI xs k
    | .ref m => (lstAt h m).bind fun xs => atI xs k
    | _ => none
  | .tup ys => match dctAt x h with
    | none => none
    | some p => match keyD p.1 (.tup ys) with
      | none => none
      | some k => getK p.1 p.2 k
  | _ => none
def dIx (a i : Den) : Den := fun e h => (a e h).bind fun x h => (i e h).bind fun y h => .of (ixO x y h) h
theorem Kd.of_some {o : Option D} (k : Kd K ι h H e σ (.of o h) Q) : ∃ c, o = some c ∧ Kd K ι h H e σ (.ok c h) Q := by
  cases o with
  | none => exact k.elim
  | some c => exact ⟨c, rfl, k⟩
theorem ixD_ok {x d : D} {ys : List D} {v w : V} (R : Rl K ι e h σ H) (q : ixO x (.tup ys) h = some d) (r1 : Rep K ι H x v) (r2 : Rep K ι H (.tup ys) w) (k : Kd K ι h H e σ (.ok d h) Q) : rIxK TheW.w K v w H Q := by
  unfold ixO at q
  dsimp only at q
  cases qd : dctAt x h with
  | none => rw [qd] at q; cases q
  | some p =>
    rw [qd] at q
    obtain ⟨ks, ds⟩ := p
    dsimp only at q
    cases qk : keyD ks (.tup ys) with
    | none => rw [qk] at q; cases q
    | some kk =>
      rw [qk] at q
      dsimp only at q
      obtain ⟨qk, hT⟩ := keyD_ok qk
      obtain ⟨dd, vv, xs, rfl, dk, ek, vs, rl⟩ := rep_dk R.rh qd hT r1
      obtain ⟨b, rfl, nk, dp⟩ := keyT_nk qk r2
      obtain ⟨z, gz, rz⟩ := getK_rep rl q
      have ga := getK_at (xs := xs) (k := kk)
      cases qa : atKey xs kk with
      | none =>
        exfalso
        rw [qa] at ga
        subst ek
        have : ∀ {vv : List V} {us : List Value} {ks : List NestedKey}, Vals vv us → getK ks us kk = none → getK ks vv kk = none := by
          intro vv us ks r
          induction r generalizing ks with
          | nil => intro _; cases ks <;> rfl
          | cons _ _ ih =>
            cases ks with
            | nil => intro _; rfl
            | cons k' ks =>
              intro z
              unfold getK at z ⊢
              by_cases c : k' = kk
              · rw [if_pos c] at z; cases z
              · rw [if_neg c] at z ⊢; exact ih z
        rw [this vs ga] at gz
        cases gz
      | some p =>
        rw [qa] at ga
        subst ek
        obtain ⟨z', g', r'⟩ := getK_rel (ks := []) vs ga
        rw [gz] at g'
        cases g'
        exact ⟨b, dd, kk, xs, p, z, rfl, rfl, dk, nk, dp, qa, r', k.here R rz⟩
theorem ixO_ok {x i d : D} {v w : V} (R : Rl K ι e h σ H) (q : ixO x i h = some d) (r1 : Rep K ι H x v) (r2 : Rep K ι H i w) (k : Kd K ι h H e σ (.ok d h) Q) : rIx K v w H Q ∨ rIxK TheW.w K v w H Q := by
  by_cases it : ∃ ys, i = .tup ys
  · obtain ⟨ys, rfl⟩ := it
    exact .inr (ixD_ok R q r1 r2 k)
  left
  unfold ixO at q
  cases i <;> try cases q
  rotate_left
  · exact (it ⟨_, rfl⟩).elim
  cases r2
  dsimp only at q
  cases x <;> try cases q
  · rename_i s
    cases r1
    dsimp only at q
    split at q
    · rename_i hz
      cases z : atI s.cps.toList _ with
      | none => rw [z] at q; cases q
      | some c => rw [z] at q; cases q; exact .inr (.inr ⟨_, _, c, rfl, rfl, hz, z, k.here R (.str _)⟩)
    · cases q
  · cases r1 with
    | tup f t =>
      obtain ⟨u, z, r⟩ := t.atI q
      exact .inr (.inl ⟨_, _, _, _, rfl, rfl, f.sq, z, k.here R r⟩)
  · cases r1 with
    | lst f t =>
      obtain ⟨u, z, r⟩ := t.atI q
      exact .inl ⟨_, _, _, _, rfl, rfl, .of f.1, z, k.here R r⟩
  · cases r1 with
    | scr f t =>
      obtain ⟨u, z, r⟩ := t.atI q
      exact .inl ⟨_, _, _, _, rfl, rfl, f.sq, z, k.here R r⟩
  · rename_i m
    dsimp only at q
    cases q1 : lstAt h m with
    | none => rw [q1] at q; cases q
    | some xs =>
      rw [q1] at q
      obtain ⟨p, vs, rfl, ea, ra, _⟩ := lstAt_rep R.rh q1 r1
      obtain ⟨u, z, r⟩ := ra.atI (show atI xs _ = some d from q)
      exact .inl ⟨_, _, _, _, rfl, rfl, .of ea, z, k.here R r⟩
theorem ixR_or {r r' : R2} (h : IxR X r) (h' : IxR X r') : IxR X (fun x y H Q => r x y H Q ∨ r' x y H Q) := fun value slice pins s σ H x y v u Q I rx ry z hs => z.elim (fun z => h value slice pins s σ H x y v u Q I rx ry z hs) fun z => h' value slice pins s σ H x y v u Q I rx ry z hs
theorem s_ix (hu : X.A.units + 65 < cLine ∧ TheW.w = X.w) (ha : PE X a (rdE X.K da)) (hb : PE X b (rdE X.K db)) (hs : PlainIx b) : PE X (.Subscript a b pos) (rdE X.K (dIx da db)) :=
  (pe_ix (ixR_or ix_seq (show IxR X (rIxK TheW.w X.K) by rw [hu.2]; exact ix_dk hu.1)) ha hb hs).wkn fun σ H Q ⟨ι, e, h, R, k⟩ => ⟨ι, e, h, R, (Kg.bind k).imp fun v H1 ⟨d, h1, ι1, n1⟩ => ⟨ι1, e, h1, n1.R, (Kg.bind n1.k).imp fun w H2 ⟨d2, h2, ι2, n2⟩ => by
    obtain ⟨c, q, k2⟩ := Kd.of_some n2.k
    exact ixO_ok n2.R q (n1.rr.ext n2.x) n2.rr k2⟩⟩

/-! ### slices -/
abbrev DenO := En → Hs → Res (Option Int)
def RO (_ : Io) (_ : Hp) (a b : Option Int) : Prop := a = b
def rdO (K : PySem.W.Frag) (d : DenO) : TO := fun σ H Q => ∃ ι e h, Rl K ι e h σ H ∧ Kg RO K ι h H e σ (d e h) Q
theorem _root_.L2.PO.wkn {e : Option Expr} {t t' : TO} (p : PO X e t) (i : ∀ σ H Q, t' σ H Q → t σ H Q) : PO X e t' := ⟨fun pins s σ H Q I q => p.run pins s σ H Q I (i _ _ _ q)⟩
def oNo : DenO := fun _ h => .ok none h
def asI : D → Option Int
  | .int i => some i
  | _ => none
def oSome (a : Den) : DenO := fun e h => (a e h).bind fun x h => match asI x with
  | none => .bad
  | some i => .ok (some i) h
theorem o_none : PO X none (rdO X.K oNo) := po_none.wkn fun σ H Q ⟨ι, e, h, R, k⟩ => k.here R rfl
theorem o_some (ha : PE X a (rdE X.K da)) : PO X (some a) (rdO X.K (oSome da)) :=
  (po_some ha).wkn fun σ H Q ⟨ι, e, h, R, k⟩ => ⟨ι, e, h, R, (Kg.bind k).imp fun v H1 ⟨d, h1, ι1, n1⟩ => by
    have k1 := n1.k
    have r1 := n1.rr
    cases d <;> try exact k1.elim
    cases r1
    exact ⟨_, rfl, Kg.here k1 n1.R rfl⟩⟩
def cutD (xs : List D) (lo hi : Option Int) : List D := (xs.drop (HT.sIx xs.length 0 lo)).take (HT.sIx xs.length xs.length hi - HT.sIx xs.length 0 lo)
theorem RepL.cut {ds : List D} {vs : List V} (r : RepL K ι H ds vs) (lo hi : Option Int) : RepL K ι H (cutD ds lo hi) (cutV vs lo hi) := by
  unfold cutD cutV
  rw [r.length]
  exact (r.drop _).take _
def slO (x : D) (lo hi : Option Int) (h : Hs) : Option D := match x with
  | .tup xs => some (.tup (cutD xs lo hi))
  | .str s => if s.length ≤ sizeLine then some (.str (cutS s lo hi)) else none
  | x => (asL h x).map fun xs => .lst (cutD xs lo hi)
def dSl (a : Den) (lo hi : DenO) : Den := fun e h => (a e h).bind fun x h => (lo e h).bind fun l h => (hi e h).bind fun u h => .of (slO x l u h) h
def rSl (K : PySem.W.Frag) : V → Option Int → Option Int → Hp → VK → Prop := fun x lo hi H Q => rSlL K x lo hi H Q ∨ (rSlA K x lo hi H Q ∨ rSlS x lo hi H Q)
theorem sl_any : SlR X (rSl X.K) := sl_list.or (sl_tupA.or sl_str)
theorem cutD_all {xs : List D} {lo hi : Option Int} (z : HT.sIx xs.length 0 lo = 0 ∧ HT.sIx xs.length xs.length hi = xs.length) : cutD xs lo hi = xs := by
  unfold cutD
  rw [z.1, z.2, List.drop_zero, Nat.sub_zero, List.take_length]
theorem slO_ok {x d : D} {lo hi : Option Int} {v : V} (R : Rl K ι e h σ H) (q : slO x lo hi h = some d) (r1 : Rep K ι H x v) (k : Kd K ι h H e σ (.ok d h) Q) : rSl K v lo hi H Q := by
  have lists : ∀ {xs : List D}, asL h x = some xs → d = .lst (cutD xs lo hi) → rSl K v lo hi H Q := fun {xs} q1 ed => by
    subst ed
    obtain ⟨p, vs, rfl, ea, ra⟩ := asL_rep R.rh q1 r1
    exact .inl ⟨p, vs, rfl, ea, fun p hp => k.new R hp (.newL R.rh hp (ra.cut lo hi))⟩
  unfold slO at q
  cases x <;> try cases q
  · cases r1
    dsimp only at q
    split at q
    · cases q
      exact .inr (.inr ⟨_, rfl, by assumption, k.here R (.str _)⟩)
    · cases q
  · cases r1 with
    | tup f t =>
      refine .inr (.inl ⟨_, _, rfl, f.sq, fun z => ?_, fun _ p hp => k.new R hp (.newT R.rh hp (t.cut lo hi))⟩)
      rw [← t.length] at z
      rw [cutD_all z] at k
      exact k.here R (.tup f t)
  · exact lists rfl rfl
  · exact lists rfl rfl
  · dsimp only at q
    cases q1 : asL h (.ref _) with
    | none => rw [q1] at q; cases q
    | some xs => rw [q1] at q; cases q; exact lists q1 rfl
theorem s_sl {lo hi : Option Expr} {p2 : Pos} {dl dh : DenO} (ha : PE X a (rdE X.K da)) (hl : PO X lo (rdO X.K dl)) (hh : PO X hi (rdO X.K dh)) : PE X (.Subscript a (.Slice lo hi none p2) pos) (rdE X.K (dSl da dl dh)) :=
  (pe_slice sl_any ha hl hh).wkn fun σ H Q ⟨ι, e, h, R, k⟩ => ⟨ι, e, h, R, (Kg.bind k).imp fun v H1 ⟨d, h1, ι1, n1⟩ => ⟨ι1, e, h1, n1.R, (Kg.bind n1.k).imp fun l H2 ⟨d2, h2, ι2, n2⟩ => ⟨ι2, e, h2, n2.R, (Kg.bind n2.k).imp fun u H3 ⟨d3, h3, ι3, n3⟩ => by
    obtain ⟨c, q, k3⟩ := Kd.of_some n3.k
    cases n2.rr
    cases n3.rr
    exact slO_ok n3.R q ((n1.rr.ext n2.x).ext n3.x) k3⟩⟩⟩
end
end Ev
/-! EvE: calls of what is built in. -/
namespace Ev
open PySem PySem.Spec L2
variable [TheW]

/-- a value that is no star -/
def plain : Expr → Bool
  | .Starred .. => false
  | _ => true
theorem star_of {e : Expr} {es : List Expr} {env : Env} (h : plain e = true) : starEach (e :: es) env = (false, eval e env) :: starEach es env := by
  cases e <;> first | rfl | cases h
theorem star_all {env : Env} {pos : Pos} : ∀ {es : List Expr}, es.all plain = true → (backTo pos (starEach es env)).any (·.1) = false
  | [], _ => rfl
  | e :: es, h => by
    rw [List.all_cons, Bool.and_eq_true] at h
    rw [star_of h.1]
    show (List.any (_ :: backTo pos (starEach es env)) _) = false
    rw [List.any_cons, star_all h.2]
    rfl

/-! data in which dicts may stand, no lists -/
mutual
def kdat : NestedKey → PyData
  | .none => .none
  | .num i => .int i
  | .text s => .str s
  | .tup ks => .tuple (kdats ks)
def kdats : List NestedKey → List PyData
  | [] => []
  | k :: ks => kdat k :: kdats ks
end
mutual
def D.datx : D → Option PyData
  | .tup xs => (D.datxAll xs).map .tuple
  | .dct ks vs => (D.datxAll vs).map fun ds => .dict ((kdats ks).zip ds)
  | .lst _ => none
  | .scr _ => none
  | .ref _ => none
  | .ins _ _ _ => none
  | .cls _ => none
  | .fnv _ => none
  | .exc _ _ _ => none
  | .non => some .none
  | .bl b => some (.bool b)
  | .int i => some (.int i)
  | .str s => some (.str s)
def D.datxAll : List D → Option (List PyData)
  | [] => some []
  | x :: xs => bind2 (D.datx x) (D.datxAll xs) List.cons
end
mutual
inductive DpX (w : World) (K : PySem.W.Frag) (H : Hp) : V → PyData → Prop
  | non : DpX w K H .non .none
  | bl (b : Bool) : DpX w K H (.bl b) (.bool b)
  | int (i : Int) : DpX w K H (.int i) (.int i)
  | str (x : Str) : DpX w K H (.str x) (.str x)
  | tup {a : Addr} {xs : List V} {ds : List PyData} : SqT K H a xs → DpXs w K H xs ds → DpX w K H (.ref a) (.tuple ds)
  | dct {a : Addr} {ks : List NestedKey} {kv vv : List V} {es ds : List PyData} : FD0 w H a ks kv vv → DpXs w K H kv es → DpXs w K H vv ds → DpX w K H (.ref a) (.dict (es.zip ds))
inductive DpXs (w : World) (K : PySem.W.Frag) (H : Hp) : List V → List PyData → Prop
  | nil : DpXs w K H [] []
  | cons {v : V} {vs : List V} {d : PyData} {ds : List PyData} : DpX w K H v d → DpXs w K H vs ds → DpXs w K H (v :: vs) (d :: ds)
end
theorem DpXs.length {w : World} {K : PySem.W.Frag} {H : Hp} : ∀ {vs : List V} {ds : List PyData}, DpXs w K H vs ds → vs.length = ds.length
  | _, _, .nil => rfl
  | _, _, .cons _ t => by rw [List.length_cons, List.length_cons, DpXs.length t]
section
variable {X : Cx} {pins : List (Addr × Obj)} {σ : St} {H : Hp} {s : Shared}
mutual
theorem DpX.reads (I : Inv X pins σ H s) : ∀ {v : V} {d : PyData}, DpX X.w X.K H v d → ∀ u : Value, RelV v u → ∃ as, Reads s.heap u d as ∧ sysModules ∉ as
  | _, _, .non, u, r => by cases r; exact ⟨_, .none, (by simp)⟩
  | _, _, .bl b, u, r => by cases r; exact ⟨_, .bool b, (by simp)⟩
  | _, _, .int i, u, r => by obtain ⟨t, rfl⟩ := r; exact ⟨_, .int i t, (by simp)⟩
  | _, _, .str x, u, r => by obtain ⟨t, rfl⟩ := r; exact ⟨_, .str x t, (by simp)⟩
  | _, _, .tup hs ha, u, r => by
    cases r
    obtain ⟨its, rv, ⟨o, ho, hc, n, hd⟩, _⟩ := I.tuple hs
    obtain ⟨as, hr, hn⟩ := DpXs.reads I ha its rv
    exact ⟨_, Reads.tuple ho hc hd hr, hn⟩
  | _, _, .dct (ks := ks) (kv := kv) (vv := vv) (es := es) (ds := ds) f rk rv, u, r => by
    cases r
    obtain ⟨o, h1, dk, hs⟩ := f
    obtain ⟨xs, ⟨hx, ⟨en, ep, hd, e3⟩, _⟩, e1, vk, vl⟩ : ∃ xs : List Ent, DEntM X.w o xs ∧ ks = xs.map (·.1) ∧ Vals kv (xs.map (·.2.1)) ∧ Vals vv (xs.map (·.2.2)) := by
      rcases dk with dk | ⟨xs, a, b, c, d, _⟩
      · exact dtu_m dk
      · exact ⟨xs, a, b, c, d⟩
    obtain ⟨ho, _⟩ := I.hok _ _ h1
    have k1 : Vals kv (en.toList.map (·.key)) := by rw [e3, List.map_map]; exact vk
    have k2 : Vals vv (en.toList.map (·.val)) := by rw [e3, List.map_map]; exact vl
    have l1 : es.length = ds.length := by
      rw [← rk.length, ← rv.length, k1.length, k2.length, List.length_map, List.length_map]
    obtain ⟨as, r1, n1⟩ := DpXs.reads I rk _ k1
    obtain ⟨bs, r2, n2⟩ := DpXs.reads I rv _ k2
    refine ⟨_, Reads.dict ho hx.1 hd (by rw [List.map_fst_zip (by omega)]; exact r1) (by rw [List.map_snd_zip (by omega)]; exact r2), ?_⟩
    intro m
    rcases List.mem_append.mp m with m | m
    · rcases List.mem_cons.mp m with m | m
      · rw [← m] at hs; exact absurd hs (by decide)
      · exact n1 m
    · exact n2 m
theorem DpXs.reads (I : Inv X pins σ H s) : ∀ {vs : List V} {ds : List PyData}, DpXs X.w X.K H vs ds → ∀ us : List Value, Vals vs us → ∃ as, ReadsAll s.heap us ds as ∧ sysModules ∉ as
  | _, _, .nil, us, r => by cases r; exact ⟨_, .nil, (by simp)⟩
  | _, _, .cons h1 h2, us, r => by
    cases r with
    | cons r1 r2 =>
      obtain ⟨as, q1, n1⟩ := DpX.reads I h1 _ r1
      obtain ⟨bs, q2, n2⟩ := DpXs.reads I h2 _ r2
      exact ⟨_, .cons q1 q2, fun m => (List.mem_append.mp m).elim n1 n2⟩
end
end
mutual
theorem kdat_rep {w : World} {K : PySem.W.Frag} {ι : Io} {H : Hp} : ∀ (k : NestedKey) (v : V), Rep K ι H (kd k) v → DpX w K H v (kdat k)
  | .none, v, r => by unfold kd at r; cases r; exact .non
  | .num i, v, r => by unfold kd at r; cases r; exact .int i
  | .text s, v, r => by unfold kd at r; cases r; exact .str s
  | .tup ks, v, r => by
    unfold kd at r
    unfold kdat
    cases r with
    | tup f t => exact .tup f.sq (kdats_rep ks _ t)
theorem kdats_rep {w : World} {K : PySem.W.Frag} {ι : Io} {H : Hp} : ∀ (ks : List NestedKey) (vs : List V), RepL K ι H (kds ks) vs → DpXs w K H vs (kdats ks)
  | [], vs, r => by unfold kds at r; cases r; exact .nil
  | k :: ks, vs, r => by
    unfold kds at r
    unfold kdats
    cases r with
    | cons r1 r2 => exact .cons (kdat_rep k _ r1) (kdats_rep ks _ r2)
end
mutual
theorem datx_rep {K : PySem.W.Frag} {ι : Io} {H : Hp} : ∀ (d : D) (v : V) (x : PyData), Rep K ι H d v → D.datx d = some x → DpX TheW.w K H v x
  | .non, v, x, r, q => by cases q; cases r; exact .non
  | .bl b, v, x, r, q => by cases q; cases r; exact .bl b
  | .int i, v, x, r, q => by cases q; cases r; exact .int i
  | .str s, v, x, r, q => by cases q; cases r; exact .str s
  | .tup ds, v, x, r, q => by
    unfold D.datx at q
    cases q1 : D.datxAll ds with
    | none => rw [q1] at q; cases q
    | some es =>
      rw [q1] at q; cases q
      cases r with
      | tup f t => exact .tup f.sq (datxAll_rep ds _ _ t q1)
  | .dct ks ds, v, x, r, q => by
    unfold D.datx at q
    cases q1 : D.datxAll ds with
    | none => rw [q1] at q; cases q
    | some es =>
      rw [q1] at q; cases q
      cases r with
      | dct f rk rv => exact .dct f.1 (kdats_rep ks _ rk) (datxAll_rep ds _ _ rv q1)
  | .lst _, _, _, _, q => by cases q
  | .scr _, _, _, _, q => by cases q
  | .ref _, _, _, _, q => by cases q
  | .ins _ _ _, _, _, _, q => by cases q
  | .cls _, _, _, _, q => by cases q
  | .fnv _, _, _, _, q => by cases q
  | .exc _ _ _, _, _, _, q => by cases q
theorem datxAll_rep {K : PySem.W.Frag} {ι : Io} {H : Hp} : ∀ (ds : List D) (vs : List V) (xs : List PyData), RepL K ι H ds vs → D.datxAll ds = some xs → DpXs TheW.w K H vs xs
  | [], vs, xs, r, q => by cases q; cases r; exact .nil
  | d :: ds, vs, xs, r, q => by
    unfold D.datxAll at q
    cases q1 : D.datx d with
    | none => rw [q1] at q; cases q
    | some y =>
      cases q2 : D.datxAll ds with
      | none => rw [q1, q2] at q; cases q
      | some ys =>
        rw [q1, q2] at q; cases q
        cases r with
        | cons r1 r2 => exact .cons (datx_rep d _ _ r1 q1) (datxAll_rep ds _ _ r2 q2)
end
section
variable {X : Cx} {a b c : Expr} {p pos : Pos} {da db dc : Den} {x : Str}
abbrev F1 := D → Hs → Option D
def dB1 (f : F1) (a : Den) : Den := fun e h => (a e h).bind fun x h => .of (f x h) h
abbrev F2 := D → D → Hs → Option D
def dB2 (f : F2) (a b : Den) : Den := fun e h => (a e h).bind fun x h => (b e h).bind fun y h => .of (f x y h) h
/-- what a rule of the layer is to give for f -/
def Ok1 (K : PySem.W.Frag) (f : F1) (r : List V → Hp → VK → Prop) : Prop := ∀ (ι : Io) (h : Hs) (H : Hp) (e : En) (σ : St) (Q : VK) (x d : D) (v : V), Rl K ι e h σ H → f x h = some d → Rep K ι H x v → Kd K ι h H e σ (.ok d h) Q → r [v] H Q
def Ok2 (K : PySem.W.Frag) (f : F2) (r : List V → Hp → VK → Prop) : Prop := ∀ (ι : Io) (h : Hs) (H : Hp) (e : En) (σ : St) (Q : VK) (x y d : D) (v w : V), Rl K ι e h σ H → f x y h = some d → Rep K ι H x v → Rep K ι H y w → Kd K ι h H e σ (.ok d h) Q → r [v, w] H Q
theorem a_one {es : List Expr} {da : Den} (ha : PE X a (rdE X.K da)) (pa : plain a = true) : PA X [a] (rdA X.K (aCons da aNil)) := s_cons ha s_nil (star_of pa)
theorem a_two {da db : Den} (ha : PE X a (rdE X.K da)) (pa : plain a = true) (hb : PE X b (rdE X.K db)) (pb : plain b = true) : PA X [a, b] (rdA X.K (aCons da (aCons db aNil))) := s_cons ha (s_cons hb s_nil (star_of pb)) (star_of pa)
theorem c1_rd {K : PySem.W.Frag} {f : F1} {r : List V → Hp → VK → Prop} (ok : Ok1 K f r) {σ : St} {H : Hp} {Q : VK} (h : rdE K (dB1 f da) σ H Q) : tCB r (rdA K (aCons da aNil)) σ H Q := by
  obtain ⟨ι, e, h, R, k⟩ := h
  refine ⟨ι, e, h, R, ?_⟩
  unfold dB1 at k
  show Ka K ι h H e σ ((da e h).bind fun x h => (aNil e h).bind fun xs h => .ok (x :: xs) h) _
  cases q : da e h with
  | err _ _ => rw [q] at k; exact k
  | bad => rw [q] at k; exact k
  | ok d h1 =>
    rw [q] at k
    intro ι' H' vs x' R' rr
    obtain ⟨c, q1, k1⟩ := Kd.of_some (Kg.after k x')
    cases rr with
    | cons r1 t => cases t; exact ok ι' h1 H' e σ Q d c _ R' q1 r1 k1
theorem c2_rd {K : PySem.W.Frag} {f : F2} {r : List V → Hp → VK → Prop} (ok : Ok2 K f r) {σ : St} {H : Hp} {Q : VK} (h : rdE K (dB2 f da db) σ H Q) : tCB r (rdA K (aCons da (aCons db aNil))) σ H Q := by
  obtain ⟨ι, e, h, R, k⟩ := h
  refine ⟨ι, e, h, R, ?_⟩
  unfold dB2 at k
  show Ka K ι h H e σ ((da e h).bind fun x h => (((db e h).bind fun y h => (aNil e h).bind fun xs h => .ok (y :: xs) h)).bind fun xs h => .ok (x :: xs) h) _
  cases q : da e h with
  | err _ _ => rw [q] at k; exact k
  | bad => rw [q] at k; exact k
  | ok d h1 =>
    rw [q] at k
    have k : Kd K ι h H e σ ((db e h1).bind fun y h => .of (f d y h) h) Q := k
    show Ka K ι h H e σ (((db e h1).bind fun y h => (aNil e h).bind fun xs h => .ok (y :: xs) h).bind fun xs h => .ok (d :: xs) h) _
    cases q2 : db e h1 with
    | err _ _ => rw [q2] at k; exact k
    | bad => rw [q2] at k; exact k
    | ok d2 h2 =>
      rw [q2] at k
      intro ι' H' vs x' R' rr
      obtain ⟨c, q1, k1⟩ := Kd.of_some (Kg.after k x')
      cases rr with
      | cons r1 t =>
        cases t with
        | cons r2 t => cases t; exact ok ι' h2 H' e σ Q d d2 c _ _ R' q1 r1 r2 k1
theorem c1_b {f : F1} {id : String} {r : List V → Hp → VK → Prop} (hc : CallR X (.builtin id) r) (ok : Ok1 X.K f r) (hv : bootBuiltins x = some (.builtin id)) (hn : x ≠ "__name__") (hdb : (x == ("__debug__" : Str)) = false) (hg : Gl X x) (hm : X.mg x = none) (ha : PE X a (rdE X.K da)) (pa : plain a = true) :
    PE X (.Call (.Name x p) [a] [] pos) (rdE X.K (dB1 f da)) := (pe_callB hc hg hm hv (a_one (es := []) ha pa) hn hdb (star_of pa) rfl).wkn fun _ _ _ h => c1_rd ok h
theorem c1_t {f : F1} {id : String} {r : List V → Hp → VK → Prop} (hc : CallR X (.type id) r) (ok : Ok1 X.K f r) (hv : bootBuiltins x = some (.type id)) (hn : x ≠ "__name__") (hdb : (x == ("__debug__" : Str)) = false) (hg : Gl X x) (hm : X.mg x = none) (ha : PE X a (rdE X.K da)) (pa : plain a = true) :
    PE X (.Call (.Name x p) [a] [] pos) (rdE X.K (dB1 f da)) := (pe_callTy hc hg hm hv (a_one (es := []) ha pa) hn hdb (star_of pa) rfl).wkn fun _ _ _ h => c1_rd ok h
theorem c2_b {f : F2} {id : String} {r : List V → Hp → VK → Prop} (hc : CallR X (.builtin id) r) (ok : Ok2 X.K f r) (hv : bootBuiltins x = some (.builtin id)) (hn : x ≠ "__name__") (hdb : (x == ("__debug__" : Str)) = false) (hg : Gl X x) (hm : X.mg x = none) (ha : PE X a (rdE X.K da)) (pa : plain a = true) (hb : PE X b (rdE X.K db)) (pb : plain b = true) :
    PE X (.Call (.Name x p) [a, b] [] pos) (rdE X.K (dB2 f da db)) := (pe_callB hc hg hm hv (a_two ha pa hb pb) hn hdb (star_of pa) (star_all (by simp [pb]))).wkn fun _ _ _ h => c2_rd ok h

/-! ### the functions -/
def fLen : F1 := fun x h => match x with
  | .str s => if s.length ≤ sizeLine then some (.int s.length) else none
  | .tup xs => some (.int xs.length)
  | x => (asL h x).map fun xs => .int xs.length
theorem ok_len {K : PySem.W.Frag} : Ok1 K fLen (fun xs H Q => ∃ x n, xs = [x] ∧ LenV K x H n ∧ Q (.int n) H) := by
  intro ι h H e σ Q x d v R q r k
  have lists : ∀ {xs : List D}, asL h x = some xs → d = .int xs.length → ∃ x n, [v] = [x] ∧ LenV K x H n ∧ Q (.int n) H := fun {xs} q1 ed => by
    subst ed
    obtain ⟨p, vs, rfl, ea, ra⟩ := asL_rep R.rh q1 r
    exact ⟨_, _, rfl, .inl ⟨vs, ea, ra.length⟩, k.here R (.int _)⟩
  unfold fLen at q
  cases x <;> try cases q
  · cases r
    dsimp only at q
    split at q
    · cases q; exact ⟨_, _, rfl, ⟨by assumption, rfl⟩, k.here R (.int _)⟩
    · cases q
  · cases r with
    | tup f t => exact ⟨_, _, rfl, .inr ⟨_, f.sq, t.length⟩, k.here R (.int _)⟩
  · exact lists rfl rfl
  · exact lists rfl rfl
  · dsimp only at q
    cases q1 : asL h (.ref _) with
    | none => rw [q1] at q; cases q
    | some xs => rw [q1] at q; cases q; exact lists q1 rfl
def fAbs : F1 := fun x _ => match x with
  | .int i => some (.int (if i < 0 then -i else i))
  | _ => none
theorem ok_abs {K : PySem.W.Frag} : Ok1 K fAbs (fun xs H Q => ∃ i, xs = [.int i] ∧ Q (.int (if i < 0 then -i else i)) H) := by
  intro ι h H e σ Q x d v R q r k
  cases x <;> try cases q
  cases r
  exact ⟨_, rfl, k.here R (.int _)⟩
def fInt : F1 := fun x _ => match x with
  | .int i => some (.int i)
  | .bl b => some (.int (if b then 1 else 0))
  | .str s => if s.length ≤ 640 then (PySem.intText? s).map .int else none
  | _ => none
theorem ok_int {K : PySem.W.Frag} : Ok1 K fInt (fun xs H Q => ((∃ i, xs = [.int i] ∧ Q (.int i) H) ∨ ∃ k, xs = [.bl k] ∧ Q (.int (if k then 1 else 0)) H) ∨ ∃ a n, xs = [.str a] ∧ PySem.intText? a = some n ∧ a.length ≤ 640 ∧ Q (.int n) H) := by
  intro ι h H e σ Q x d v R q r k
  unfold fInt at q
  cases x <;> try cases q
  · cases r; exact .inl (.inr ⟨_, rfl, k.here R (.int _)⟩)
  · cases r; exact .inl (.inl ⟨_, rfl, k.here R (.int _)⟩)
  · rename_i s
    cases r
    dsimp only at q
    split at q
    · cases z : PySem.intText? s with
      | none => rw [z] at q; cases q
      | some n => rw [z] at q; cases q; exact .inr ⟨_, n, rfl, z, by assumption, k.here R (.int _)⟩
    · cases q
def fStr : F1 := fun x _ => match x with
  | .int i => if i.natAbs.log2 < 1920 then some (.str (toString i)) else none
  | .str s => some (.str s)
  | _ => none
theorem ok_str {K : PySem.W.Frag} : Ok1 K fStr (fun xs H Q => (∃ i, xs = [.int i] ∧ i.natAbs.log2 < 1920 ∧ Q (.str (toString i)) H) ∨ ∃ a, xs = [.str a] ∧ Q (.str a) H) := by
  intro ι h H e σ Q x d v R q r k
  unfold fStr at q
  cases x <;> try cases q
  · cases r
    dsimp only at q
    split at q
    · cases q; exact .inl ⟨_, rfl, by assumption, k.here R (.str _)⟩
    · cases q
  · cases r; exact .inr ⟨_, rfl, k.here R (.str _)⟩
/-- repr(x) of plain data -/
def rRepr0 (K : PySem.W.Frag) : List V → Hp → VK → Prop := fun xs H Q => ∃ v d, xs = [v] ∧ Dp K H v d ∧ d.showable = true ∧ d.hasDict = false ∧ d.depth ≤ 64 ∧ d.shown.length ≤ sizeLine ∧ Q (.str d.shown) H
theorem cr_repr0 (hg : X.A.guards = some []) (hu : X.A.units + 66 < cLine) : CallR X (.builtin "repr") (rRepr0 X.K) := by
  intro pins s σ H xs us Q I r h
  obtain ⟨v, d, rfl, hd, hs, hn, hdp, hz, q⟩ := h
  obtain ⟨u, rfl, ru⟩ := vals1 r
  have go : ∀ {b : Addr}, u = .ref b → wpAny (model X.prog X.w) X.A (call (.builtin "repr") [u]) (EP X pins σ Q) X.xe s := fun {b} eb => by
    obtain ⟨as, rd⟩ := Dp.reads I d v u hd ru
    subst eb
    exact repr_of_reads' rd hs (PyData.noDict_hsm hn) hg (by omega) (fun _ _ e => e) (fun h' t tk hk => ⟨.str _, H, I.kept hk, ⟨_, rfl⟩, q⟩) hz
  cases hd with
  | non => cases ru; exact PySem.P.repr_of_none ⟨.str _, H, I.tok _, ⟨_, rfl⟩, q⟩
  | bl b => cases ru; exact PySem.P.repr_of_bool ⟨.str _, H, I.tok _, ⟨_, rfl⟩, q⟩
  | int i =>
    obtain ⟨t, rfl⟩ := ru
    exact PySem.P.repr_of_int (by simpa [PyData.showable] using hs) ⟨.str _, H, I.tok _, ⟨_, rfl⟩, q⟩
  | str y =>
    obtain ⟨t, rfl⟩ := ru
    exact PySem.P.repr_of_str ⟨.str _, H, I.tok _, ⟨_, rfl⟩, q⟩ hz
  | lst _ _ => exact go ru
  | tup _ _ => exact go ru
def rReprX (w : World) (K : PySem.W.Frag) : List V → Hp → VK → Prop := fun xs H Q => ∃ v d, xs = [v] ∧ DpX w K H v d ∧ d.showable = true ∧ d.depth ≤ 64 ∧ d.shown.length ≤ sizeLine ∧ Q (.str d.shown) H
theorem cr_reprX (hg : X.A.guards = some []) (hu : X.A.units + 66 < cLine) : CallR X (.builtin "repr") (rReprX X.w X.K) := by
  intro pins s σ H xs us Q I r h
  obtain ⟨v, d, rfl, hd, hs, hdp, hz, q⟩ := h
  obtain ⟨u, rfl, ru⟩ := vals1 r
  have go : ∀ {b : Addr}, u = .ref b → wpAny (model X.prog X.w) X.A (call (.builtin "repr") [u]) (EP X pins σ Q) X.xe s := fun {b} eb => by
    obtain ⟨as, rd, ns⟩ := DpX.reads I hd u ru
    subst eb
    exact repr_of_reads' rd hs (fun _ => ns) hg (by omega) (fun _ _ e => e) (fun h' t tk hk => ⟨.str _, H, I.kept hk, ⟨_, rfl⟩, q⟩) hz
  cases hd with
  | non => cases ru; exact PySem.P.repr_of_none ⟨.str _, H, I.tok _, ⟨_, rfl⟩, q⟩
  | bl b => cases ru; exact PySem.P.repr_of_bool ⟨.str _, H, I.tok _, ⟨_, rfl⟩, q⟩
  | int i =>
    obtain ⟨t, rfl⟩ := ru
    exact PySem.P.repr_of_int (by simpa [PyData.showable] using hs) ⟨.str _, H, I.tok _, ⟨_, rfl⟩, q⟩
  | str y =>
    obtain ⟨t, rfl⟩ := ru
    exact PySem.P.repr_of_str ⟨.str _, H, I.tok _, ⟨_, rfl⟩, q⟩ hz
  | tup _ _ => exact go ru
  | dct _ _ _ => exact go ru
def rRepr (w : World) (K : PySem.W.Frag) : List V → Hp → VK → Prop := fun xs H Q => rRepr0 K xs H Q ∨ rReprX w K xs H Q
theorem cr_repr (hg : X.A.guards = some []) (hu : X.A.units + 66 < cLine) : CallR X (.builtin "repr") (rRepr X.w X.K) := by
  intro pins s σ H xs us Q I r h
  rcases h with h | h
  · exact cr_repr0 hg hu pins s σ H xs us Q I r h
  · exact cr_reprX hg hu pins s σ H xs us Q I r h
theorem cr_reprT (hw : TheW.w = X.w) (hg : X.A.guards = some []) (hu : X.A.units + 66 < cLine) : CallR X (.builtin "repr") (rRepr TheW.w X.K) := by
  rw [hw]; exact cr_repr hg hu
def shwX (d : PyData) : Option D := if d.showable = true then if d.depth ≤ 64 then if d.shown.length ≤ sizeLine then some (.str d.shown) else none else none else none
def shw (d : PyData) : Option D := if d.showable = true then if d.hasDict = false then if d.depth ≤ 64 then if d.shown.length ≤ sizeLine then some (.str d.shown) else none else none else none else none
def fRepr : F1 := fun x h => match dat h x with
  | none => (match D.datx x with
    | none => none
    | some d => shwX d)
  | some d => shw d
theorem ok_repr {K : PySem.W.Frag} : Ok1 K fRepr (rRepr TheW.w K) := by
  intro ι h H e σ Q x d v R q r k
  unfold fRepr at q
  cases q1 : dat h x with
  | none =>
    rw [q1] at q
    dsimp only at q
    cases q2 : D.datx x with
    | none => rw [q2] at q; cases q
    | some y =>
      rw [q2] at q
      dsimp only at q
      unfold shwX at q
      split at q
      · split at q
        · split at q
          · cases q
            exact .inr ⟨v, y, rfl, datx_rep x v y r q2, by assumption, by assumption, by assumption, k.here R (.str _)⟩
          · cases q
        · cases q
      · cases q
  | some y =>
    rw [q1] at q
    dsimp only at q
    unfold shw at q
    split at q
    · split at q
      · split at q
        · split at q
          · cases q
            exact .inl ⟨v, y, rfl, data_rep R.rh 8 x v y r q1, by assumption, by assumption, by assumption, by assumption, k.here R (.str _)⟩
          · cases q
        · cases q
      · cases q
    · cases q
def fTup : F1 := fun x h => match x with
  | .tup xs => some (.tup xs)
  | x => (asL h x).map .tup
theorem ok_tup {K : PySem.W.Frag} : Ok1 K fTup (fun xs H Q => ∃ p ys, xs = [.ref p] ∧ ((SqL K H p ys ∧ ∀ l, H l = none → Q (.ref l) (upd H l (.tup ys))) ∨ (SqT K H p ys ∧ Q (.ref p) H))) := by
  intro ι h H e σ Q x d v R q r k
  have lists : ∀ {xs : List D}, asL h x = some xs → d = .tup xs → ∃ p ys, [v] = [.ref p] ∧ ((SqL K H p ys ∧ ∀ l, H l = none → Q (.ref l) (upd H l (.tup ys))) ∨ (SqT K H p ys ∧ Q (.ref p) H)) := fun {xs} q1 ed => by
    subst ed
    obtain ⟨p, vs, rfl, ea, ra⟩ := asL_rep R.rh q1 r
    exact ⟨_, _, rfl, .inl ⟨ea, fun l hl => k.new R hl (.newT R.rh hl ra)⟩⟩
  unfold fTup at q
  cases x <;> try cases q
  · cases r with
    | tup f t => exact ⟨_, _, rfl, .inr ⟨f.sq, k.here R (.tup f t)⟩⟩
  · exact lists rfl rfl
  · exact lists rfl rfl
  · dsimp only at q
    cases q1 : asL h (.ref _) with
    | none => rw [q1] at q; cases q
    | some xs => rw [q1] at q; cases q; exact lists q1 rfl
def fLst : F1 := fun x h => match x with
  | .tup xs => some (.lst xs)
  | x => (asL h x).map .lst
theorem ok_lst {K : PySem.W.Frag} : Ok1 K fLst (fun xs H Q => ∃ p ys, xs = [.ref p] ∧ (SqL K H p ys ∨ SqT K H p ys) ∧ ∀ l, H l = none → Q (.ref l) (upd H l (.lst ys))) := by
  intro ι h H e σ Q x d v R q r k
  have lists : ∀ {xs : List D}, asL h x = some xs → d = .lst xs → ∃ p ys, [v] = [.ref p] ∧ (SqL K H p ys ∨ SqT K H p ys) ∧ ∀ l, H l = none → Q (.ref l) (upd H l (.lst ys)) := fun {xs} q1 ed => by
    subst ed
    obtain ⟨p, vs, rfl, ea, ra⟩ := asL_rep R.rh q1 r
    exact ⟨_, _, rfl, .inl ea, fun l hl => k.new R hl (.newL R.rh hl ra)⟩
  unfold fLst at q
  cases x <;> try cases q
  · cases r with
    | tup f t => exact ⟨_, _, rfl, .inr f.sq, fun l hl => k.new R hl (.newL R.rh hl t)⟩
  · exact lists rfl rfl
  · exact lists rfl rfl
  · dsimp only at q
    cases q1 : asL h (.ref _) with
    | none => rw [q1] at q; cases q
    | some xs => rw [q1] at q; cases q; exact lists q1 rfl
theorem rep_bls {K : PySem.W.Frag} {ι : Io} {H : Hp} : ∀ {ds : List D} {vs : List V} {bs : List Bool}, RepL K ι H ds vs → mapO asB ds = some bs → vs = bs.map V.bl
  | _, _, _, .nil, q => by cases q; rfl
  | d :: ds, v :: vs, bs, .cons r t, q => by
    unfold mapO at q
    cases d <;> try cases q
    rename_i b
    cases r
    cases q2 : mapO asB ds with
    | none => rw [q2] at q; cases q
    | some cs => rw [q2] at q; cases q; rw [rep_bls t q2]; rfl
theorem rep_ints {K : PySem.W.Frag} {ι : Io} {H : Hp} : ∀ {ds : List D} {vs : List V} {bs : List Int}, RepL K ι H ds vs → mapO asI ds = some bs → vs = bs.map V.int
  | _, _, _, .nil, q => by cases q; rfl
  | d :: ds, v :: vs, bs, .cons r t, q => by
    unfold mapO at q
    cases d <;> try cases q
    rename_i b
    cases r
    cases q2 : mapO asI ds with
    | none => rw [q2] at q; cases q
    | some cs => rw [q2] at q; cases q; rw [rep_ints t q2]; rfl
/-- a function of a list of truths, of ints -/
def fBs (g : List Bool → Option D) : F1 := fun x h => match asL h x with
  | none => none
  | some xs => match mapO asB xs with
    | none => none
    | some bs => g bs
def fIs (g : List Int → Option D) : F1 := fun x h => match asL h x with
  | none => none
  | some xs => match mapO asI xs with
    | none => none
    | some bs => g bs
theorem bs_ok {K : PySem.W.Frag} {ι : Io} {h : Hs} {H : Hp} {g : List Bool → Option D} {x d : D} {v : V} (R : RH K ι h H) (q : fBs g x h = some d) (r : Rep K ι H x v) : ∃ a bs, v = .ref a ∧ SqL K H a (bs.map V.bl) ∧ g bs = some d := by
  unfold fBs at q
  cases q1 : asL h x with
  | none => rw [q1] at q; cases q
  | some xs =>
    rw [q1] at q
    dsimp only at q
    cases q2 : mapO asB xs with
    | none => rw [q2] at q; cases q
    | some bs =>
      rw [q2] at q
      obtain ⟨p, vs, rfl, ea, ra⟩ := asL_rep R q1 r
      rw [rep_bls ra q2] at ea
      exact ⟨p, bs, rfl, ea, q⟩
theorem is_ok {K : PySem.W.Frag} {ι : Io} {h : Hs} {H : Hp} {g : List Int → Option D} {x d : D} {v : V} (R : RH K ι h H) (q : fIs g x h = some d) (r : Rep K ι H x v) : ∃ a bs, v = .ref a ∧ SqL K H a (bs.map V.int) ∧ g bs = some d := by
  unfold fIs at q
  cases q1 : asL h x with
  | none => rw [q1] at q; cases q
  | some xs =>
    rw [q1] at q
    dsimp only at q
    cases q2 : mapO asI xs with
    | none => rw [q2] at q; cases q
    | some bs =>
      rw [q2] at q
      obtain ⟨p, vs, rfl, ea, ra⟩ := asL_rep R q1 r
      rw [rep_ints ra q2] at ea
      exact ⟨p, bs, rfl, ea, q⟩
def fAll : F1 := fBs fun bs => some (.bl (bs.all id))
def fAny : F1 := fBs fun bs => some (.bl (bs.any id))
def fSum : F1 := fun x h => match x with
  | .tup xs => match mapO asI xs with
    | none => none
    | some ns => some (.int ns.sum)
  | x => fIs (fun ns => some (.int ns.sum)) x h
def rSumT (K : PySem.W.Frag) : List V → Hp → VK → Prop := fun vs H Q => ∃ (a : Addr) (ns : List Int), vs = [V.ref a] ∧ SqT K H a (ns.map V.int) ∧ Q (.int ns.sum) H
theorem cr_sumT {X : Cx} (hc : X.calm = true) : CallR X (.builtin "sum") (rSumT X.K) := by
  intro pins s σ H vs us Q I r h
  obtain ⟨a, ns, rfl, hs, q⟩ := h
  obtain ⟨its, rv, hl, _⟩ := I.tuple hs
  rw [Vals.ref1 r]
  have hi := rv.ints
  obtain ⟨xs, e⟩ := hi.allInts.items
  have hn : PySem.numsOf (PySem.intItems xs).toList = ns := by rw [← e]; exact hi.numsOf
  rw [PySem.nums_intItems] at hn
  rw [e] at hl
  refine PySem.W.ktm_sumG (I.ok.hd hc) hl fun h' tk t' hk => ?_
  rw [preSum_eq, List.take_of_length_le (by simp), hn]
  exact ⟨.int _, H, I.kept hk, ⟨_, rfl⟩, q⟩
def maxI : List Int → Int
  | [] => 0
  | [x] => x
  | x :: y :: r => let m := maxI (y :: r); if x < m then m else x
def minI : List Int → Int
  | [] => 0
  | [x] => x
  | x :: y :: r => let m := minI (y :: r); if m < x then m else x
theorem maxI_mem : ∀ {ns : List Int}, 0 < ns.length → maxI ns ∈ ns ∧ ∀ y ∈ ns, y ≤ maxI ns
  | [], h => by simp at h
  | [x], _ => by simp [maxI]
  | x :: y :: r, _ => by
    obtain ⟨h1, h2⟩ := maxI_mem (ns := y :: r) (by simp)
    unfold maxI
    dsimp only
    split
    · refine ⟨List.mem_cons_of_mem _ h1, fun z hz => ?_⟩
      rcases List.mem_cons.mp hz with rfl | hz
      · omega
      · exact h2 z hz
    · refine ⟨List.mem_cons_self .., fun z hz => ?_⟩
      rcases List.mem_cons.mp hz with rfl | hz
      · omega
      · have := h2 z hz; omega
theorem minI_mem : ∀ {ns : List Int}, 0 < ns.length → minI ns ∈ ns ∧ ∀ y ∈ ns, minI ns ≤ y
  | [], h => by simp at h
  | [x], _ => by simp [minI]
  | x :: y :: r, _ => by
    obtain ⟨h1, h2⟩ := minI_mem (ns := y :: r) (by simp)
    unfold minI
    dsimp only
    split
    · refine ⟨List.mem_cons_of_mem _ h1, fun z hz => ?_⟩
      rcases List.mem_cons.mp hz with rfl | hz
      · omega
      · exact h2 z hz
    · refine ⟨List.mem_cons_self .., fun z hz => ?_⟩
      rcases List.mem_cons.mp hz with rfl | hz
      · omega
      · have := h2 z hz; omega
def fMax : F1 := fIs fun ns => if 0 < ns.length then some (.int (maxI ns)) else none
def fMin : F1 := fIs fun ns => if 0 < ns.length then some (.int (minI ns)) else none
theorem ok_all {K : PySem.W.Frag} : Ok1 K fAll (rAll K) := by
  intro ι h H e σ Q x d v R q r k
  obtain ⟨a, bs, rfl, ea, z⟩ := bs_ok R.rh q r
  cases z
  exact ⟨a, bs, rfl, ea, k.here R (.bl _)⟩
theorem ok_any {K : PySem.W.Frag} : Ok1 K fAny (rAny K) := by
  intro ι h H e σ Q x d v R q r k
  obtain ⟨a, bs, rfl, ea, z⟩ := bs_ok R.rh q r
  cases z
  exact ⟨a, bs, rfl, ea, k.here R (.bl _)⟩
theorem ok_sum {K : PySem.W.Frag} : Ok1 K fSum (fun vs H Q => rSum K vs H Q ∨ rSumT K vs H Q) := by
  intro ι h H e σ Q x d v R q r k
  have lists : fIs (fun ns => some (.int ns.sum)) x h = some d → rSum K [v] H Q := fun q => by
    obtain ⟨a, bs, rfl, ea, z⟩ := is_ok R.rh q r
    cases z
    exact ⟨a, bs, rfl, ea, k.here R (.int _)⟩
  cases x with
  | tup xs =>
    unfold fSum at q
    dsimp only at q
    cases q2 : mapO asI xs with
    | none => rw [q2] at q; cases q
    | some ns =>
      rw [q2] at q
      cases q
      cases r with
      | tup f t =>
        have ea := f.sq
        rw [rep_ints t q2] at ea
        exact .inr ⟨_, ns, rfl, ea, k.here R (.int _)⟩
  | _ => exact .inl (lists q)
theorem ok_max {K : PySem.W.Frag} : Ok1 K fMax (rMax K) := by
  intro ι h H e σ Q x d v R q r k
  obtain ⟨a, ns, rfl, ea, z⟩ := is_ok R.rh q r
  split at z
  · cases z
    rename_i hl
    obtain ⟨h1, h2⟩ := maxI_mem hl
    refine ⟨a, ns, rfl, ea, hl, fun m hm hy => ?_⟩
    have e1 := h2 m hm
    have e2 := hy _ h1
    obtain rfl : m = maxI ns := by omega
    exact k.here R (.int _)
  · cases z
theorem ok_min {K : PySem.W.Frag} : Ok1 K fMin (rMin K) := by
  intro ι h H e σ Q x d v R q r k
  obtain ⟨a, ns, rfl, ea, z⟩ := is_ok R.rh q r
  split at z
  · cases z
    rename_i hl
    obtain ⟨h1, h2⟩ := minI_mem hl
    refine ⟨a, ns, rfl, ea, hl, fun m hm hy => ?_⟩
    have e1 := h2 m hm
    have e2 := hy _ h1
    obtain rfl : m = minI ns := by omega
    exact k.here R (.int _)
  · cases z
/-! two arguments -/
def f2I (g : Int → Int → Option D) : F2 := fun x y _ => match x with
  | .int i => match y with
    | .int j => g i j
    | _ => none
  | _ => none
theorem f2I_ok {g : Int → Int → Option D} {x y d : D} {h : Hs} (q : f2I g x y h = some d) : ∃ i j, x = .int i ∧ y = .int j ∧ g i j = some d := by
  cases x <;> try cases q
  cases y <;> try cases q
  exact ⟨_, _, rfl, rfl, q⟩
def fMax2 : F2 := f2I fun i j => some (.int (if j > i then j else i))
def fMin2 : F2 := f2I fun i j => some (.int (if j < i then j else i))
def fDm : F2 := f2I fun i j => if 0 < j ∧ j < 1073741824 then some (.tup [.int (i / j), .int (i % j)]) else none
theorem ok_max2 {K : PySem.W.Frag} : Ok2 K fMax2 (fun xs H Q => ∃ i j, xs = [.int i, .int j] ∧ Q (.int (if j > i then j else i)) H) := by
  intro ι h H e σ Q x y d v w R q r1 r2 k
  obtain ⟨i, j, rfl, rfl, z⟩ := f2I_ok q
  cases z; cases r1; cases r2
  exact ⟨_, _, rfl, k.here R (.int _)⟩
theorem ok_min2 {K : PySem.W.Frag} : Ok2 K fMin2 (fun xs H Q => ∃ i j, xs = [.int i, .int j] ∧ Q (.int (if j < i then j else i)) H) := by
  intro ι h H e σ Q x y d v w R q r1 r2 k
  obtain ⟨i, j, rfl, rfl, z⟩ := f2I_ok q
  cases z; cases r1; cases r2
  exact ⟨_, _, rfl, k.here R (.int _)⟩
theorem ok_dm {K : PySem.W.Frag} : Ok2 K fDm (fun xs H Q => ∃ i j, xs = [.int i, .int j] ∧ CDiv i j ∧ ∀ p, H p = none → Q (.ref p) (upd H p (.tup [.int (i / j), .int (i % j)]))) := by
  intro ι h H e σ Q x y d v w R q r1 r2 k
  obtain ⟨i, j, rfl, rfl, z⟩ := f2I_ok q
  split at z
  · cases z; cases r1; cases r2
    exact ⟨_, _, rfl, by assumption, fun p hp => k.new R hp (.newT R.rh hp (.cons (.int _) (.cons (.int _) .nil)))⟩
  · cases z
end
end Ev
/-! EvF: isinstance; targets; what is walked; list comprehensions. -/
namespace Ev
open PySem PySem.Spec L2
variable [TheW]

/-! ### isinstance(x, T) -/
inductive TyD where
  | non | bl | int | str | tup | lst | dct
inductive TyT where
  | bl | int | str | tup | lst
def TyD.name : TyD → String
  | .non => "NoneType" | .bl => "bool" | .int => "int" | .str => "str" | .tup => "tuple" | .lst => "list" | .dct => "dict"
def TyT.name : TyT → String
  | .bl => "bool" | .int => "int" | .str => "str" | .tup => "tuple" | .lst => "list"
def isTy (a : TyD) (b : TyT) : Bool := match a, b with
  | .bl, .bl => true
  | .bl, .int => true
  | .int, .int => true
  | .str, .str => true
  | .tup, .tup => true
  | .lst, .lst => true
  | _, _ => false
theorem isTy_kit (a : TyD) (b : TyT) : kitB a.name b.name = some (isTy a b) := by
  cases a <;> cases b <;> decide +kernel
def tyD (x : D) (h : Hs) : Option TyD := match x with
  | .non => some .non
  | .bl _ => some .bl
  | .int _ => some .int
  | .str _ => some .str
  | .tup _ => some .tup
  | .lst _ => some .lst
  | .scr _ => some .lst
  | .ref m => (lstAt h m).map fun _ => .lst
  | .dct _ _ => some .dct
  | _ => none
theorem FT.ty {K : PySem.W.Frag} {ι : Io} {H : Hp} {a : Addr} {vs : List V} (f : FT K ι H a vs) : TyX K H (.ref a) (.type "tuple") := by
  rcases f with ⟨f | ⟨o, f⟩, _⟩ | f
  · exact .base (.tup f)
  · exact .fTuple f
  · rcases f with (z | ⟨o, z⟩) | ⟨o, its, n, lk, c, _⟩
    · cases z
    · cases z
    · exact .kTuple lk c
theorem FS.ty {K : PySem.W.Frag} {ι : Io} {H : Hp} {a : Addr} {vs : List V} (f : FS K ι H a vs) : TyX K H (.ref a) (.type "list") := by
  rcases f with ⟨f | ⟨o, f⟩, _⟩ | f
  · exact .base (.lst f)
  · exact .base (.frz f)
  · rcases f with (z | ⟨o, z⟩) | ⟨o, its, n, lk, c, _⟩
    · cases z
    · cases z
    · exact .kList lk c
/-- what type a value has; an opaque dict, too -/
def TyY (K : PySem.W.Frag) (H : Hp) (x : V) (t : Value) : Prop := TyX K H x t ∨ (t = .type "dict" ∧ ∃ a o, x = .ref a ∧ H a = some (XO a o) ∧ o.ExactDict)
def rIsiY (K : PySem.W.Frag) : List V → Hp → VK → Prop := fun xs H Q => ∃ (x c : V) (t u : Value) (b : Bool), xs = [x, c] ∧ ClsV c u ∧ TyY K H x t ∧ PySem.W.kitOne K t u = some b ∧ Q (.bl b) H
theorem call_isiY {X : Cx} : CallR X (.builtin "isinstance") (rIsiY X.K) := by
  intro pins s σ H xs us Q I r h
  obtain ⟨x, c, t, u, b, rfl, k, ty, e, q⟩ := h
  rcases ty with ty | ⟨rfl, a, o, rfl, ha, hx⟩
  · exact call_isi pins s σ H _ us Q I r ⟨x, c, t, u, b, rfl, k, ty, e, q⟩
  · obtain ⟨u1, u2, rfl, r1, r2⟩ := vals2 r
    have e2 := k.eq r2
    subst e2
    cases (show u1 = Value.ref a from r1)
    obtain ⟨ho, _⟩ := I.hok a _ ha
    exact PySem.W.kia_one PySem.W.kitx_dict I.kIn ⟨o, ho, hx.1⟩ e (fun z => nomatch z) fun tk => ⟨.bl b, H, I.tok tk, rfl, q⟩
theorem tyD_rep {K : PySem.W.Frag} {ι : Io} {h : Hs} {H : Hp} {x : D} {v : V} {t : TyD} (R : RH K ι h H) (q : tyD x h = some t) (r : Rep K ι H x v) : TyY K H v (.type t.name) := by
  cases x with
  | non => cases r; cases q; exact .inl <| .base .non
  | bl b => cases r; cases q; exact .inl <| .base (.bl b)
  | int b => cases r; cases q; exact .inl <| .base (.int b)
  | str b => cases r; cases q; exact .inl <| .base (.str b)
  | tup b =>
    cases r with
    | tup f _ => cases q; exact .inl f.ty
  | lst b =>
    cases r with
    | lst f _ => cases q; exact .inl <| .base (.lst f.1)
  | scr b =>
    cases r with
    | scr f _ => cases q; exact .inl f.ty
  | ref m =>
    unfold tyD at q
    dsimp only at q
    cases q1 : lstAt h m with
    | none => rw [q1] at q; cases q
    | some xs =>
      rw [q1] at q; cases q
      obtain ⟨a, vs, rfl, ea, _, _⟩ := lstAt_rep R q1 r
      exact .inl <| .base (.lst ea)
  | ins _ _ _ => cases q
  | dct _ _ =>
    cases r with
    | dct f _ _ =>
      cases q
      obtain ⟨⟨o, h1, dk, _⟩, _⟩ := f
      exact .inr ⟨rfl, _, o, rfl, h1, (dky_walk dk).1⟩
  | cls _ => cases q
  | fnv _ => cases q
  | exc _ _ _ => cases q
def fIsi (T : TyT) : F1 := fun x h => (tyD x h).map fun t => .bl (isTy t T)
section
variable {X : Cx} {a b c : Expr} {p p2 pos : Pos} {da db dc : Den}
theorem s_isi {T : TyT} {tn : Str} (hT : bootBuiltins tn = some (.type T.name)) (hn : tn ≠ "__name__") (hd : (tn == ("__debug__" : Str)) = false) (hg : Gl X "isinstance") (hm : X.mg "isinstance" = none) (hgt : Gl X tn) (hmt : X.mg tn = none) (ha : PE X a (rdE X.K da)) (pa : plain a = true) :
    PE X (.Call (.Name "isinstance" p) [a, .Name tn p2] [] pos) (rdE X.K (dB1 (fIsi T) da)) := by
  refine (pe_callB call_isiY hg hm (by decide +kernel) (pa_cons ha (pa_cons (pe_bltn (v := .ty T.name) hgt hmt hT rfl hn hd) pa_nil) (star_of pa)) (by decide) (by decide) (star_of pa) rfl).wkn fun σ H Q ⟨ι, e, h, R, k⟩ => ?_
  refine ⟨ι, e, h, R, (Kg.bind k).imp fun v H1 ⟨d, h1, ι1, n1⟩ => ?_⟩
  obtain ⟨c, q, k1⟩ := Kd.of_some n1.k
  unfold fIsi at q
  cases z : tyD d h1 with
  | none => rw [z] at q; cases q
  | some t =>
    rw [z] at q; cases q
    exact ⟨v, .ty T.name, .type t.name, .type T.name, isTy t T, rfl, .ty _, tyD_rep n1.R.rh z n1.rr, kit_ty (isTy_kit t T), k1.here n1.R (.bl _)⟩
end

/-! ### targets -/
abbrev DenG := D → En → Hs → Res En
/-- what is wanted behind a store -/
def KG (K : PySem.W.Frag) (ι : Io) (h : Hs) (H : Hp) (r : Res En) (Q : St → Hp → Prop) : Prop := match r with
  | .ok e' h' => ∀ ι' σ' H', Ext ι h H ι' h' H' → Rl K ι' e' h' σ' H' → Q σ' H'
  | _ => False
def rdG (K : PySem.W.Frag) (g : DenG) : TG := fun v σ H Q => ∃ ι e h d, Rl K ι e h σ H ∧ Rep K ι H d v ∧ KG K ι h H (g d e h) Q
theorem KG.after {K : PySem.W.Frag} {ι ι1 : Io} {h h1 : Hs} {H H1 : Hp} {r : Res En} {Q : St → Hp → Prop} (k : KG K ι h H r Q) (x : Ext ι h H ι1 h1 H1) : KG K ι1 h1 H1 r Q := by
  cases r with
  | ok a h' => exact fun ι' σ' H' y R => k ι' σ' H' (x.trans y) R
  | err _ _ => exact k
  | bad => exact k
theorem KG.imp {K : PySem.W.Frag} {ι : Io} {h : Hs} {H : Hp} {r : Res En} {Q Q' : St → Hp → Prop} (k : KG K ι h H r Q) (i : ∀ σ H, Q σ H → Q' σ H) : KG K ι h H r Q' := by
  cases r with
  | ok a h' => exact fun ι' σ' H' y R => i _ _ (k ι' σ' H' y R)
  | err _ _ => exact k
  | bad => exact k
def gNm (i : Nat) : DenG := fun d e h => if i < e.length then .ok (e.set i (some d)) h else .bad
section
variable {X : Cx} {pos : Pos}
theorem _root_.L2.PG.wkn {e : Expr} {t t' : TG} (p : PG X e t) (i : ∀ v σ H Q, t' v σ H Q → t v σ H Q) : PG X e t' := ⟨fun pins s σ H v u Q I r q => p.run pins s σ H v u Q I r (i _ _ _ _ q)⟩
theorem _root_.L2.PGs.wkn {e : List Expr} {t t' : TGs} (p : PGs X e t) (i : ∀ v σ H Q, t' v σ H Q → t v σ H Q) : PGs X e t' := ⟨fun pins s σ H v u Q I r q => p.run pins s σ H v u Q I r (i _ _ _ _ q)⟩
theorem RE.set {K : PySem.W.Frag} {ι : Io} {e : En} {σ : St} {H : Hp} {d : D} {v : V} (r : RE K ι e σ H) (rd : Rep K ι H d v) (i : Nat) : RE K ι (e.set i (some d)) (σ.set i (some v)) H := by
  refine ⟨by rw [List.length_set, List.length_set]; exact r.len, fun j c q => ?_⟩
  by_cases hj : i = j
  · subst hj
    have hl : i < e.length := by
      have := (List.getElem?_eq_some_iff.mp q).1
      rwa [List.length_set] at this
    rw [List.getElem?_set_self hl] at q
    cases q
    exact ⟨v, by rw [List.getElem?_set_self (by rw [← r.len]; exact hl)], rd⟩
  · rw [List.getElem?_set_ne hj] at q
    obtain ⟨w, a, b⟩ := r.get j c q
    exact ⟨w, by rw [List.getElem?_set_ne hj]; exact a, b⟩
theorem g_name {i : Nat} {x : Str} (hN : X.N.Nodup) (hi : X.N[i]? = some x) (hx : Loc X.env.scope x) (hf : X.fn x = true ∨ X.env.scope.names.lookup x = some .local) : PG X (.Name x pos) (rdG X.K (gNm i)) :=
  (pg_name hN hi hx hf).wkn fun v σ H Q ⟨ι, e, h, d, R, rd, k⟩ => by
    unfold gNm at k
    split at k
    · exact k ι _ H .refl ⟨R.rh, R.re.set rd i⟩
    · exact k.elim
abbrev DenGs := List D → En → Hs → Res En
def rdGs (K : PySem.W.Frag) (g : DenGs) : TGs := fun vs σ H Q => ∃ ι e h ds, Rl K ι e h σ H ∧ RepL K ι H ds vs ∧ KG K ι h H (g ds e h) Q
def gNil' : DenGs := fun ds e h => match ds with
  | [] => .ok e h
  | _ => .bad
def gCons' (g : DenG) (gs : DenGs) : DenGs := fun ds e h => match ds with
  | [] => .bad
  | d :: ds => (g d e h).bind fun e h => gs ds e h
theorem gs_nil : PGs X [] (rdGs X.K gNil') := pgs_nil.wkn fun vs σ H Q ⟨ι, e, h, ds, R, rd, k⟩ => by
  cases rd with
  | nil => exact ⟨rfl, k ι σ H .refl R⟩
  | cons _ _ => exact k.elim
theorem gs_cons {t : Expr} {ts : List Expr} {g : DenG} {gs : DenGs} (h1 : PG X t (rdG X.K g)) (h2 : PGs X ts (rdGs X.K gs)) (hs : (assignEach (t :: ts) X.env).map (·.2) = assign t X.env :: (assignEach ts X.env).map (·.2)) : PGs X (t :: ts) (rdGs X.K (gCons' g gs)) :=
  (pgs_cons h1 h2 hs).wkn fun vs σ H Q ⟨ι, e, h, ds, R, rd, k⟩ => by
    cases rd with
    | nil => exact k.elim
    | @cons d v ds vs r1 rs =>
      refine ⟨_, _, rfl, ι, e, h, _, R, r1, ?_⟩
      have k : KG X.K ι h H ((g d e h).bind fun e h => gs ds e h) Q := k
      cases q : g d e h with
      | err _ _ => rw [q] at k; exact k
      | bad => rw [q] at k; exact k
      | ok e1 h1 =>
        rw [q] at k
        exact fun ι' σ' H' y R' => ⟨ι', e1, h1, _, R', rs.ext y, KG.after k y⟩
def gTp (n : Nat) (gs : DenGs) : DenG := fun d e h => match d with
  | .tup ds => if ds.length = n then gs ds e h else .bad
  | .lst ds => if ds.length = n then gs ds e h else .bad
  | _ => .bad
theorem pg_or {tg : Expr} {t u : TG} (a : PG X tg t) (b : PG X tg u) : PG X tg (fun v σ H Q => t v σ H Q ∨ u v σ H Q) :=
  ⟨fun pins s σ H v w Q I r h => h.elim (fun h => a.run pins s σ H v w Q I r h) fun h => b.run pins s σ H v w Q I r h⟩
theorem g_tup {ts : List Expr} {k n : Nat} {gs : DenGs} (hc : X.calm = true) (h : PGs X ts (rdGs X.K gs)) (hn : (assignEach ts X.env).length = n) (hst : (assignEach ts X.env).findIdx? (·.1) = none) : PG X (.Tuple ts k pos) (rdG X.K (gTp n gs)) :=
  (pg_or (pg_tup hc h hn hst) (pg_lst hc h hn hst)).wkn fun v σ H Q ⟨ι, e, h, d, R, rd, k⟩ => by
    cases d <;> try exact k.elim
    · cases rd with
      | tup f t =>
        unfold gTp at k
        dsimp only at k
        split at k
        · rename_i hl
          exact .inl ⟨_, _, rfl, f.sq, by rw [← t.length]; exact hl, ι, e, h, _, R, t, k⟩
        · exact k.elim
    · cases rd with
      | lst f t =>
        unfold gTp at k
        dsimp only at k
        split at k
        · rename_i hl
          exact .inr ⟨_, _, rfl, .of f.1, by rw [← t.length]; exact hl, ι, e, h, _, R, t, k⟩
        · exact k.elim

/-! ### a cell is changed -/
section
variable {K : PySem.W.Frag} {ι : Io} {h : Hs} {H : Hp} {e : En} {σ : St} {m : Nat} {a : Addr} {xs ys : List D} {ws : List V} {o₀ o₁ : O} {u₁ : HO}
theorem cell_extO (R : RH K ι h H) (hm : h[m]? = some (.live o₀)) (ha : ι.c[m]? = some (some a)) : Ext ι h H ι (h.set m (.live o₁)) (upd H a u₁) := by
  have hl : m < h.length := (List.getElem?_eq_some_iff.mp hm).1
  have ma : Mt ι h a := ⟨m, ha, _, hm⟩
  refine ⟨fun _ _ q => .inl q, fun b o q nm => ?_, fun _ q => .inl q, fun b q => ?_, fun n o q => ?_, rfl⟩
  · have hne : b ≠ a := fun z => nm (by rw [z]; exact ma)
    rw [upd_ne hne]; exact q
  · obtain ⟨n, q1, o, q2⟩ := q
    by_cases z : m = n
    · subst z
      rw [ha] at q1; cases q1
      exact .inl ma
    · rw [List.getElem?_set_ne z] at q2
      exact .inl ⟨n, q1, o, q2⟩
  · by_cases z : m = n
    · subst z; rw [hm] at q; cases q
    · rw [List.getElem?_set_ne z]; exact q
theorem cell_rhO (R : RH K ι h H) (hm : h[m]? = some (.live o₀)) (ha : ι.c[m]? = some (some a)) (rl : ORep K ι (upd H a u₁) a o₁) (b : o₁.und m = true) : RH K ι (h.set m (.live o₁)) (upd H a u₁) := by
  have hl : m < h.length := (List.getElem?_eq_some_iff.mp hm).1
  have x := cell_extO (o₁ := o₁) (u₁ := u₁) R hm ha
  refine ⟨by rw [List.length_set]; exact R.len, fun b m => ?_, R.gd, fun n q => ?_, fun n o q => ?_, R.inj⟩
  · obtain ⟨u, q, nc⟩ := R.gs b m
    by_cases z : b = a
    · exact absurd ha (z ▸ R.gd b m _)
    · exact ⟨u, by rw [upd_ne z]; exact q, nc⟩
  · by_cases z : m = n
    · subst z; rw [List.getElem?_set_self hl] at q; cases q
    · rw [List.getElem?_set_ne z] at q; exact R.dead n q
  · by_cases z : m = n
    · subst z
      rw [List.getElem?_set_self hl] at q
      have eo : o = o₁ := by
        rcases q with q | q
        · cases q; rfl
        · cases q
      subst eo
      exact ⟨a, ha, rl, b⟩
    · rw [List.getElem?_set_ne z] at q
      obtain ⟨a', qa, w, bb⟩ := R.cell n o q
      have hne : a' ≠ a := fun y => z (R.inj m n a ha (y ▸ qa))
      exact ⟨a', qa, w.ext x (upd_ne hne), bb⟩
theorem cell_ext (R : RH K ι h H) (hm : h[m]? = some (.live (.lst xs))) (ha : ι.c[m]? = some (some a)) : Ext ι h H ι (h.set m (.live (.lst ys))) (upd H a (.lst ws)) := cell_extO R hm ha
theorem cell_rh (R : RH K ι h H) (hm : h[m]? = some (.live (.lst xs))) (ha : ι.c[m]? = some (some a)) (rl : RepL K ι H ys ws) (b : D.undAll m ys = true) : RH K ι (h.set m (.live (.lst ys))) (upd H a (.lst ws)) :=
  cell_rhO R hm ha ⟨ws, upd_same, rl.ext (cell_ext (ys := ys) R hm ha)⟩ b
theorem cell_rl (R : Rl K ι e h σ H) (hm : h[m]? = some (.live (.lst xs))) (ha : ι.c[m]? = some (some a)) (rl : RepL K ι H ys ws) (b : D.undAll m ys = true) : Rl K ι e (h.set m (.live (.lst ys))) σ (upd H a (.lst ws)) :=
  ⟨cell_rh R.rh hm ha rl b, R.re.ext (cell_ext (ys := ys) R.rh hm ha)⟩
theorem undAll_set {n : Nat} {d : D} (hd : d.und n = true) : ∀ {xs : List D} {j : Nat}, D.undAll n xs = true → D.undAll n (xs.set j d) = true
  | [], _, q => q
  | x :: xs, 0, q => by
    unfold D.undAll at q
    rw [Bool.and_eq_true] at q
    show D.undAll n (d :: xs) = true
    unfold D.undAll
    rw [hd, q.2]; rfl
  | x :: xs, j + 1, q => by
    unfold D.undAll at q
    rw [Bool.and_eq_true] at q
    show D.undAll n (x :: xs.set j d) = true
    unfold D.undAll
    rw [q.1, undAll_set hd q.2]; rfl
theorem undAll_append {n : Nat} : ∀ {xs ys : List D}, D.undAll n xs = true → D.undAll n ys = true → D.undAll n (xs ++ ys) = true
  | [], _, _, q => q
  | x :: xs, ys, p, q => by
    unfold D.undAll at p
    rw [Bool.and_eq_true] at p
    show D.undAll n (x :: (xs ++ ys)) = true
    unfold D.undAll
    rw [p.1, undAll_append p.2 q]; rfl
end
/-- the list of a cell that may be changed -/
def liveAt (h : Hs) (x : D) : Option (Nat × List D) := match x with
  | .ref m => match h[m]? with
    | some (.live (.lst xs)) => some (m, xs)
    | _ => none
  | _ => none
theorem liveAt_rep {K : PySem.W.Frag} {ι : Io} {h : Hs} {H : Hp} {x : D} {v : V} {m : Nat} {xs : List D} (R : RH K ι h H) (q : liveAt h x = some (m, xs)) (r : Rep K ι H x v) : ∃ a vs, v = .ref a ∧ h[m]? = some (.live (.lst xs)) ∧ ι.c[m]? = some (some a) ∧ H a = some (.lst vs) ∧ RepL K ι H xs vs ∧ D.undAll m xs = true := by
  unfold liveAt at q
  cases x <;> try cases q
  rename_i n
  dsimp only at q
  split at q
  · rename_i ys hm
    cases q
    obtain ⟨a, qa, ⟨vs, w, t⟩, b⟩ := R.cell _ _ (.inl hm)
    cases r with
    | ref z => rw [qa] at z; cases z; exact ⟨a, vs, rfl, hm, qa, w, t, b⟩
    | dead z => rw [qa] at z; cases z
  · cases q
/-- x[k] = d -/
def setL (x k d : D) (h : Hs) : Option Hs := match liveAt h x with
  | none => none
  | some (m, xs) => match k with
    | .int i => match ixN xs.length i with
      | none => none
      | some j => if d.und m = true then some (h.set m (.live (.lst (xs.set j d)))) else none
    | _ => none
def dlvAt (h : Hs) (x : D) : Option (Nat × List NestedKey × List D) := match x with
  | .ref m => match h[m]? with
    | some (.live (.dct ks vs)) => some (m, ks, vs)
    | _ => none
  | _ => none
def setO (x k d : D) (h : Hs) : Option Hs := match dlvAt h x with
  | none => setL x k d h
  | some p => match keyS p.2.1 k with
    | none => none
    | some kk => if d.und p.1 = true then if p.2.1.length < sizeLine then some (h.set p.1 (.live (.dct (putKs p.2.1 kk) (putL p.2.1 p.2.2 kk d)))) else none else none
theorem undAll_putL {n : Nat} {d : D} {k : NestedKey} (hd : d.und n = true) : ∀ {xs : List D} {ks : List NestedKey}, D.undAll n xs = true → D.undAll n (putL ks xs k d) = true
  | [], [], _ => by show (D.und n d && true) = true; rw [hd]; rfl
  | [], _ :: _, _ => by show (D.und n d && true) = true; rw [hd]; rfl
  | _ :: _, [], _ => by show (D.und n d && true) = true; rw [hd]; rfl
  | x :: xs, k' :: ks, q => by
    unfold D.undAll at q
    rw [Bool.and_eq_true] at q
    unfold putL
    by_cases c : k' = k
    · rw [if_pos c]; show (D.und n d && D.undAll n xs) = true; rw [hd, q.2]; rfl
    · rw [if_neg c]; show (D.und n x && D.undAll n (putL ks xs k d)) = true; rw [q.1, undAll_putL hd q.2]; rfl
def gSb (o i : Den) : DenG := fun d e h => (o e h).bind fun x h => (i e h).bind fun k h => match setO x k d h with
  | none => .bad
  | some h => .ok e h
theorem KG.bindE {K : PySem.W.Frag} {ι : Io} {h : Hs} {H : Hp} {e : En} {σ : St} {r : Res D} {f : D → Hs → Res En} {Q : St → Hp → Prop} (k : KG K ι h H (r.bind f) Q) : Kd K ι h H e σ r fun v H1 => ∃ d h1 ι1, Ext ι h H ι1 h1 H1 ∧ Rl K ι1 e h1 σ H1 ∧ Rep K ι1 H1 d v ∧ KG K ι1 h1 H1 (f d h1) Q := by
  cases r with
  | ok a h' => exact fun ι' H' b y R rr => ⟨a, h', ι', y, R, rr, KG.after k y⟩
  | err _ _ => exact k
  | bad => exact k
theorem pset_or {t t' : TSet} (h : PSet X t) (h' : PSet X t') : PSet X (fun o i v H Q => t o i v H Q ∨ t' o i v H Q) := fun pins s σ H o i v ov iv u Q I r1 r2 r3 z => z.elim (fun z => h pins s σ H o i v ov iv u Q I r1 r2 r3 z) fun z => h' pins s σ H o i v ov iv u Q I r1 r2 r3 z
theorem g_sub {o i : Expr} {dO di : Den} (hu : X.A.units + 65 < cLine ∧ TheW.w = X.w) (ho : PE X o (rdE X.K dO)) (hi : PE X i (rdE X.K di)) (ha : ∀ v, assign (.Subscript o i pos) X.env v = (do let ov ← holding [v] (eval o X.env); let iv ← holding [v, ov] (eval i X.env); standAt pos; holding [v, ov, iv] (setItem ov iv v); release [v, ov, iv] [])) :
    PG X (.Subscript o i pos) (rdG X.K (gSb dO di)) :=
  (pg_sub ho hi (pset_or set_list (pset_or (show PSet X (rSetK TheW.w X.K) by rw [hu.2]; exact set_dk hu.1) (show PSet X (rSetM TheW.w X.K) by rw [hu.2]; exact set_dm hu.1))) ha).wkn fun v σ H Q ⟨ι, e, h, d, R, rd, k⟩ => by
    refine ⟨ι, e, h, R, (KG.bindE k).imp fun w H1 ⟨x, h1, ι1, x1, R1, r1, k1⟩ => ⟨ι1, e, h1, R1, (KG.bindE k1).imp fun z H2 ⟨y, h2, ι2, x2, R2, r2, k2⟩ => ?_⟩⟩
    have rd2 := (rd.ext x1).ext x2
    unfold setO at k2
    cases qd : dlvAt h2 x with
    | some p =>
      obtain ⟨m, ks, ds⟩ := p
      rw [qd] at k2
      dsimp only at k2
      cases qk : keyS ks y with
      | none => rw [qk] at k2; exact k2.elim
      | some kk =>
        rw [qk] at k2
        dsimp only at k2
        split at k2
        · exact k2.elim
        · rename_i h3 q3
          split at q3
          · rename_i hd
            split at q3
            · rename_i hz
              cases q3
              have hm : h2[m]? = some (.live (.dct ks ds)) ∧ x = .ref m := by
                unfold dlvAt at qd
                cases x <;> try cases qd
                dsimp only at qd
                split at qd
                · rename_i e; cases qd; exact ⟨e, rfl⟩
                · cases qd
              obtain ⟨hm, rfl⟩ := hm
              have r1' := r1.ext x2
              obtain ⟨a, qa, ⟨kv, vv, ⟨o0, e0, dk, e5⟩, rk, rv⟩, un⟩ := R2.rh.cell m _ (.inl hm)
              have ew : w = .ref a := by
                cases r1' with
                | ref e => rw [qa] at e; cases e; rfl
                | dead e => rw [qa] at e; cases e
              subst ew
              refine .inr (setk_rep e0 dk e5 rk qk hz r2 rv rd2 fun ob kv' vv' dk' rk' rv' => ?_)
              have x3 : Ext ι2 h2 H2 ι2 (h2.set m (.live (.dct (putKs ks kk) (putL ks ds kk d)))) (upd H2 a (XO a ob)) := cell_extO R2.rh hm qa
              exact k2 ι2 σ _ x3 ⟨cell_rhO R2.rh hm qa ⟨kv', vv', ⟨ob, upd_same, dk', e5⟩, rk'.ext x3, rv'.ext x3⟩ (undAll_putL hd un), R2.re.ext x3⟩
            · cases q3
          · cases q3
    | none =>
    rw [qd] at k2
    dsimp only at k2
    unfold setL at k2
    refine .inl ?_
    cases q : liveAt h2 x with
    | none => rw [q] at k2; exact k2.elim
    | some p =>
      obtain ⟨m, xs⟩ := p
      rw [q] at k2
      dsimp only at k2
      obtain ⟨a, vs, rfl, hm, qa, w, t, b⟩ := liveAt_rep R2.rh q (r1.ext x2)
      cases y <;> try exact k2.elim
      rename_i i
      cases r2
      dsimp only at k2
      cases q2 : ixN xs.length i with
      | none => rw [q2] at k2; exact k2.elim
      | some j =>
        rw [q2] at k2
        dsimp only at k2
        split at k2
        · exact k2.elim
        · rename_i h3 q3
          split at q3
          · rename_i hd
            cases q3
            refine ⟨a, vs, i, j, rfl, rfl, w, by rw [← t.length]; exact q2, ?_⟩
            have t' := t.set rd2 j
            exact k2 ι2 σ _ (cell_ext R2.rh hm qa) (cell_rl R2 hm qa t' (undAll_set hd b))
          · cases q3
end
end Ev
/-! EvG: what is walked; list comprehensions. -/
namespace Ev
open PySem PySem.Spec L2
variable [TheW]

/-- what is walked: its items; the cell that holds them -/
structure Src where
  items : List D
  lk : Option Nat
abbrev DenI := En → Hs → Res Src
def lockC (n : Nat) (h : Hs) : Hs := match h[n]? with
  | some (.live o) => h.set n (.lock o)
  | _ => h
/-- the cell is open again, if it was (h₀: ahead of the walk) -/
def unlockC (n : Nat) (h₀ h : Hs) : Hs := match h₀[n]? with
  | some (.live _) => (match h[n]? with
    | some (.lock o) => h.set n (.live o)
    | _ => h)
  | _ => h
def lockS (l : Option Nat) (h : Hs) : Hs := match l with
  | none => h
  | some n => lockC n h
def unlockS (l : Option Nat) (h₀ h : Hs) : Hs := match l with
  | none => h
  | some n => unlockC n h₀ h
section
variable {K : PySem.W.Frag} {ι ι' : Io} {h h' : Hs} {H H' : Hp}
theorem lockC_get (n m : Nat) (h : Hs) : (lockC n h)[m]? = if m = n then (match h[m]? with | some (.live o) => some (.lock o) | q => q) else h[m]? := by
  unfold lockC
  by_cases z : m = n
  · subst z
    rw [if_pos rfl]
    cases q : h[m]? with
    | none => dsimp only; rw [q]
    | some c =>
      cases c with
      | live o =>
        dsimp only
        rw [List.getElem?_set_self (List.getElem?_eq_some_iff.mp q).1]
      | lock o => dsimp only; rw [q]
      | dead => dsimp only; rw [q]
  · rw [if_neg z]
    split
    · rw [List.getElem?_set_ne (Ne.symm z)]
    · rfl
theorem lockC_mt {n : Nat} {a : Addr} (m : Mt ι (lockC n h) a) : Mt ι h a := by
  obtain ⟨k, q1, o, q2⟩ := m
  rw [lockC_get] at q2
  split at q2
  · split at q2
    · cases q2
    · rename_i z _ _; exact ⟨k, q1, o, q2⟩
  · exact ⟨k, q1, o, q2⟩
theorem lockC_length (n : Nat) (h : Hs) : (lockC n h).length = h.length := by
  unfold lockC
  split
  · rw [List.length_set]
  · rfl
theorem lock_rh (n : Nat) (R : RH K ι h H) : RH K ι (lockC n h) H := by
  refine ⟨by rw [lockC_length]; exact R.len, R.gs, R.gd, fun k q => ?_, fun k o q => ?_, R.inj⟩
  · rw [lockC_get] at q
    split at q
    · split at q
      · cases q
      · exact R.dead k q
    · exact R.dead k q
  · rw [lockC_get] at q
    split at q
    · split at q
      · rename_i o' z
        rcases q with q | q
        · cases q
        · cases q; exact R.cell k o (.inl z)
      · exact R.cell k o q
    · exact R.cell k o q
/-- behind the walk -/
theorem unlock_ext {n : Nat} {h₀ : Hs} {H₀ : Hp} (R : RH K ι' h' H') (x : Ext ι (lockC n h₀) H₀ ι' h' H') (hn : ∀ o, h₀[n]? = some (.live o) → ∃ a, ι.c[n]? = some (some a)) : Ext ι h₀ H₀ ι' (unlockC n h₀ h') H' ∧ RH K ι' (unlockC n h₀ h') H' := by
  unfold unlockC
  cases q : h₀[n]? with
  | none =>
    have e : lockC n h₀ = h₀ := by unfold lockC; rw [q]
    rw [e] at x
    exact ⟨x, R⟩
  | some c =>
    cases c with
    | dead =>
      have e : lockC n h₀ = h₀ := by unfold lockC; rw [q]
      rw [e] at x
      exact ⟨x, R⟩
    | lock o =>
      have e : lockC n h₀ = h₀ := by unfold lockC; rw [q]
      rw [e] at x
      exact ⟨x, R⟩
    | live o =>
      have lk : (lockC n h₀)[n]? = some (.lock o) := by rw [lockC_get, if_pos rfl, q]
      have lk' := x.lk n o lk
      dsimp only
      rw [lk']
      dsimp only
      have hl : n < h'.length := (List.getElem?_eq_some_iff.mp lk').1
      obtain ⟨a, ha⟩ := hn o q
      have ha' : ι'.c[n]? = some (some a) := by
        obtain ⟨a', q', _⟩ := R.cell n o (.inr lk')
        rw [q']
        exact congrArg some (x.pre.at_some ha q').symm
      have mtn : ∀ b, Mt ι' (h'.set n (.live o)) b → b = a ∨ Mt ι' h' b := fun b ⟨k, q1, o', q2⟩ => by
        by_cases z : n = k
        · subst z
          rw [ha'] at q1; cases q1
          exact .inl rfl
        · rw [List.getElem?_set_ne z] at q2
          exact .inr ⟨k, q1, o', q2⟩
      have ma : Mt ι h₀ a := ⟨n, ha, o, q⟩
      refine ⟨⟨fun k z e => (x.pre k z e).imp_right fun ⟨e1, k1⟩ => ⟨e1, fun b eb => ⟨(k1 b eb).1.imp_left lockC_mt, (k1 b eb).2⟩⟩, fun b u e nm => x.frame b u e fun m => nm (lockC_mt m), x.own, fun b m => ?_, fun k u e => ?_, x.g⟩, ?_⟩
      · rcases mtn b m with rfl | m
        · exact .inl ma
        · rcases x.mt b m with m | m
          · exact .inl (lockC_mt m)
          · exact .inr m
      · by_cases z : n = k
        · subst z; rw [q] at e; cases e
        · rw [List.getElem?_set_ne z]
          exact x.lk k u (by rw [lockC_get, if_neg (Ne.symm z)]; exact e)
      · refine ⟨by rw [List.length_set]; exact R.len, R.gs, R.gd, fun k z => ?_, fun k u z => ?_, R.inj⟩
        · by_cases y : n = k
          · subst y; rw [List.getElem?_set_self hl] at z; cases z
          · rw [List.getElem?_set_ne y] at z; exact R.dead k z
        · by_cases y : n = k
          · subst y
            rw [List.getElem?_set_self hl] at z
            rcases z with z | z
            · cases z; exact R.cell n o (.inr lk')
            · cases z
          · rw [List.getElem?_set_ne y] at z; exact R.cell k u z

/-! ### a walk -/
/-- what stays so while one walks, and what it gives -/
structure Wk (K : PySem.W.Frag) (ι : Io) (h : Hs) (H : Hp) (xs : List D) (J : It) : Prop where
  ex : ∃ S : Io → Hs → Hp → Prop, S ι h H ∧ (∀ ι h H ι' h' H', S ι h H → Pres ι h H ι' h' H' → S ι' h' H') ∧
    (∀ ι h H (i : Nat) (d : D), S ι h H → RH K ι h H → xs[i]? = some d → J.go i H ∧ ∀ x H', J.yld i H x H' → Ext ι h H ι h H' ∧ RH K ι h H' ∧ Rep K ι H' d x) ∧
    ∀ ι h H, S ι h H → J.stop xs.length H
def KI (K : PySem.W.Frag) (ι : Io) (h : Hs) (H : Hp) (e : En) (σ : St) (r : Res Src) (R : It → Hp → Prop) : Prop := match r with
  | .ok s h' => ∀ ι' H' J, Ext ι h H ι' h' H' → Rl K ι' e h' σ H' → Wk K ι' (lockS s.lk h') H' s.items J → R J H'
  | _ => False
def rdI (K : PySem.W.Frag) (d : DenI) : TI := fun σ H R => ∃ ι e h, Rl K ι e h σ H ∧ KI K ι h H e σ (d e h) R
theorem wk_seq {a : Addr} {vs : List V} {xs : List D} {J : It} (T : Hp → Prop) (S : Io → Hs → Hp → Prop) (hS : S ι h H) (st : ∀ ι h H ι' h' H', S ι h H → Pres ι h H ι' h' H' → S ι' h' H') (hT : ∀ ι h H, S ι h H → T H ∧ RepL K ι H xs vs)
    (go : ∀ H i x, T H → vs[i]? = some x → J.go i H) (yl : ∀ H i x H', T H → J.yld i H x H' → H' = H ∧ vs[i]? = some x) (sp : ∀ H, T H → J.stop vs.length H) : Wk K ι h H xs J := by
  refine ⟨S, hS, st, fun ι h H i d s R q => ?_, fun ι h H s => ?_⟩
  · obtain ⟨t, r⟩ := hT _ _ _ s
    obtain ⟨v, qv, _⟩ := r.get q
    refine ⟨go H i v t qv, fun x H' y => ?_⟩
    obtain ⟨rfl, qx⟩ := yl H i x H' t y
    obtain ⟨v', qv', rv'⟩ := r.get q
    rw [qx] at qv'; cases qv'
    exact ⟨.refl, R, rv'⟩
  · obtain ⟨t, r⟩ := hT _ _ _ s
    rw [r.length]
    exact sp H t
theorem itl_go {a : Addr} {vs : List V} (H : Hp) (i : Nat) (x : V) (t : SqL K H a vs) (q : vs[i]? = some x) : (Itl K a).go i H := ⟨vs, x, t, q⟩
theorem wk_lst {a : Addr} {vs : List V} {xs : List D} (f : FL ι H a vs) (r : RepL K ι H xs vs) : Wk K ι h H xs (Itl K a) :=
  wk_seq (a := a) (fun H => SqL K H a vs) (fun ι h H => FL ι H a vs ∧ RepL K ι H xs vs) ⟨f, r⟩ (fun _ _ _ _ _ _ s x => ⟨s.1.pr x, s.2.pr x⟩) (fun _ _ _ s => ⟨.of s.1.1, s.2⟩)
    (fun H i x t q => ⟨vs, x, t, q⟩) (fun H i x H' t y => ⟨y.1, y.2 vs t⟩) (fun H t => ⟨vs, t, Nat.le_refl _⟩)
theorem wk_scr {a : Addr} {vs : List V} {xs : List D} (f : FS K ι H a vs) (r : RepL K ι H xs vs) : Wk K ι h H xs (Itl K a) :=
  wk_seq (a := a) (fun H => SqL K H a vs) (fun ι h H => FS K ι H a vs ∧ RepL K ι H xs vs) ⟨f, r⟩ (fun _ _ _ _ _ _ s x => ⟨s.1.pr x, s.2.pr x⟩) (fun _ _ _ s => ⟨s.1.sq, s.2⟩)
    (fun H i x t q => ⟨vs, x, t, q⟩) (fun H i x H' t y => ⟨y.1, y.2 vs t⟩) (fun H t => ⟨vs, t, Nat.le_refl _⟩)
theorem wk_tup {a : Addr} {vs : List V} {xs : List D} (f : FT K ι H a vs) (r : RepL K ι H xs vs) : Wk K ι h H xs (Itt K a) :=
  wk_seq (a := a) (fun H => SqT K H a vs) (fun ι h H => FT K ι H a vs ∧ RepL K ι H xs vs) ⟨f, r⟩ (fun _ _ _ _ _ _ s x => ⟨s.1.pr x, s.2.pr x⟩) (fun _ _ _ s => ⟨s.1.sq, s.2⟩)
    (fun H i x t q => ⟨vs, x, t, q⟩) (fun H i x H' t y => ⟨y.1, y.2 vs t⟩) (fun H t => ⟨vs, t, Nat.le_refl _⟩)
theorem wk_cell {a : Addr} {vs : List V} {xs : List D} {m : Nat} (qm : ι.c[m]? = some (some a)) (nm : ¬ Mt ι h a) (w : H a = some (.lst vs)) (r : RepL K ι H xs vs) : Wk K ι h H xs (Itl K a) :=
  wk_seq (a := a) (fun H => SqL K H a vs) (fun ι h H => ι.c[m]? = some (some a) ∧ ¬ Mt ι h a ∧ H a = some (.lst vs) ∧ RepL K ι H xs vs) ⟨qm, nm, w, r⟩
    (fun _ _ _ _ _ _ s x => ⟨x.keep s.1 s.2.2.1 s.2.1, (x.nm m _ _ s.1 s.2.2.1 s.2.1).2, (x.nm m _ _ s.1 s.2.2.1 s.2.1).1, s.2.2.2.pr x⟩) (fun _ _ _ s => ⟨.of s.2.2.1, s.2.2.2⟩)
    (fun H i x t q => ⟨vs, x, t, q⟩) (fun H i x H' t y => ⟨y.1, y.2 vs t⟩) (fun H t => ⟨vs, t, Nat.le_refl _⟩)
def rangeL (lo : Int) (n : Nat) : List D := (List.range n).map fun (i : Nat) => .int (lo + i)
theorem wk_rng {lo : Int} {n : Nat} : Wk K ι h H (rangeL lo n) (Itr lo n) := by
  refine ⟨fun _ _ _ => True, trivial, fun _ _ _ _ _ _ _ _ => trivial, fun ι h H i d _ R q => ?_, fun ι h H _ => ?_⟩
  · unfold rangeL at q
    rw [List.getElem?_map] at q
    have hi : i < n := by
      cases z : (List.range n)[i]? with
      | none => rw [z] at q; cases q
      | some j => have := (List.getElem?_eq_some_iff.mp z).1; rwa [List.length_range] at this
    rw [List.getElem?_range hi] at q
    cases q
    refine ⟨hi, fun x H' y => ?_⟩
    obtain ⟨rfl, rfl⟩ := y
    exact ⟨.refl, R, .int _⟩
  · show n ≤ (rangeL lo n).length
    unfold rangeL
    rw [List.length_map, List.length_range]
    exact Nat.le_refl n
end
/-- a value that is walked -/
def srcO (x : D) (h : Hs) : Option Src := match x with
  | .lst xs => some ⟨xs, none⟩
  | .scr xs => some ⟨xs, none⟩
  | .ref m => (lstAt h m).map fun xs => ⟨xs, some m⟩
  | _ => none
def srcT (x : D) : Option Src := match x with
  | .tup xs => some ⟨xs, none⟩
  | _ => none
def iSeq (a : Den) : DenI := fun e h => (a e h).bind fun x h => match srcO x h with
  | some s => .ok s h
  | none => .bad
def iTpl (a : Den) : DenI := fun e h => (a e h).bind fun x h => match srcT x with
  | some s => .ok s h
  | none => .bad
@[irreducible] def rngOk (i : Int) : Bool := decide (-4611686018427387904 ≤ i) && decide (i < 4611686018427387904)
def iR1 (a : Den) : DenI := fun e h => (a e h).bind fun x h => match asI x with
  | some j => if rngOk j = true then .ok ⟨rangeL 0 j.toNat, none⟩ h else .bad
  | none => .bad
def iR2 (a b : Den) : DenI := fun e h => (a e h).bind fun x h => (b e h).bind fun y h => match asI x with
  | some i => match asI y with
    | some j => if rngOk i = true then if rngOk j = true then .ok ⟨rangeL i (j - i).toNat, none⟩ h else .bad else .bad
    | none => .bad
  | none => .bad
section
variable {X : Cx} {tg a b : Expr} {p pos : Pos} {da db : Den} {K : PySem.W.Frag} {ι ι1 : Io} {h h1 : Hs} {H H1 : Hp} {e : En} {σ : St} {R : It → Hp → Prop}
theorem _root_.L2.PI.wkn {e : Expr} {t t' : TI} (p : PI X tg e t) (i : ∀ σ H R, t' σ H R → t σ H R) : PI X tg e t' := ⟨fun pins s σ H R I q => p.run pins s σ H R I (i _ _ _ q)⟩
theorem KI.after {r : Res Src} (k : KI K ι h H e σ r R) (x : Ext ι h H ι1 h1 H1) : KI K ι1 h1 H1 e σ r R := by
  cases r with
  | ok a h' => exact fun ι' H' J y q w => k ι' H' J (x.trans y) q w
  | err _ _ => exact k
  | bad => exact k
theorem KI.bindE {r : Res D} {f : D → Hs → Res Src} (k : KI K ι h H e σ (r.bind f) R) : Kd K ι h H e σ r fun v H1 => ∃ d h1 ι1, Ext ι h H ι1 h1 H1 ∧ Rl K ι1 e h1 σ H1 ∧ Rep K ι1 H1 d v ∧ KI K ι1 h1 H1 e σ (f d h1) R := by
  cases r with
  | ok a h' => exact fun ι' H' b y q rr => ⟨a, h', ι', y, q, rr, KI.after k y⟩
  | err _ _ => exact k
  | bad => exact k
theorem i_seq (ha : PE X a (rdE X.K da)) : PI X tg a (rdI X.K (iSeq da)) :=
  (pi_list ha).wkn fun σ H R ⟨ι, e, h, q, k⟩ => ⟨ι, e, h, q, (KI.bindE k).imp fun v H1 ⟨d, h1, ι1, x1, R1, r1, k1⟩ => by
    cases d <;> try exact k1.elim
    · cases r1 with
      | lst f t => exact ⟨_, rfl, ⟨_, .of f.1⟩, k1 ι1 H1 _ .refl R1 (wk_lst f t)⟩
    · cases r1 with
      | scr f t => exact ⟨_, rfl, ⟨_, f.sq⟩, k1 ι1 H1 _ .refl R1 (wk_scr f t)⟩
    · rename_i m
      unfold srcO at k1
      dsimp only at k1
      cases q1 : lstAt h1 m with
      | none => rw [q1] at k1; exact k1.elim
      | some xs =>
        rw [q1] at k1
        obtain ⟨p, vs, rfl, ea, ra, qa⟩ := lstAt_rep R1.rh q1 r1
        refine ⟨p, rfl, ⟨vs, .of ea⟩, k1 ι1 H1 _ .refl R1 (wk_cell (m := m) qa (fun z => ?_) ea ra)⟩
        obtain ⟨n, qn, o, ho⟩ := z
        have : n = m := R1.rh.inj n m p qn qa
        subst this
        change (lockC n h1)[n]? = some (.live o) at ho
        rw [lockC_get, if_pos rfl] at ho
        split at ho
        · cases ho
        · rename_i hh; exact hh o ho⟩
theorem i_tup (ha : PE X a (rdE X.K da)) : PI X tg a (rdI X.K (iTpl da)) :=
  (pi_tup ha).wkn fun σ H R ⟨ι, e, h, q, k⟩ => ⟨ι, e, h, q, (KI.bindE k).imp fun v H1 ⟨d, h1, ι1, x1, R1, r1, k1⟩ => by
    cases d <;> try exact k1.elim
    cases r1 with
    | tup f t => exact ⟨_, rfl, ⟨_, f.sq⟩, k1 ι1 H1 _ .refl R1 (wk_tup f t)⟩⟩
theorem i_r1 (hg : Gl X "range") (hm : X.mg "range" = none) (ha : PE X a (rdE X.K da)) (pa : plain a = true) : PI X tg (.Call (.Name "range" p) [a] [] pos) (rdI X.K (iR1 da)) :=
  (pi_range1 hg hm (pa_cons ha pa_nil (star_of pa)) (star_of pa)).wkn fun σ H R ⟨ι, e, h, q, k⟩ => ⟨ι, e, h, q, (KI.bindE k).imp fun v H1 ⟨d, h1, ι1, x1, R1, r1, k1⟩ => by
    cases d <;> try exact k1.elim
    cases r1
    unfold asI at k1
    dsimp only at k1
    split at k1
    · rename_i hz
      simp only [rngOk, Bool.and_eq_true, decide_eq_true_eq] at hz
      exact ⟨_, rfl, by omega, by omega, k1 ι1 H1 _ .refl R1 wk_rng⟩
    · exact k1.elim⟩
theorem i_r2 (hg : Gl X "range") (hm : X.mg "range" = none) (ha : PE X a (rdE X.K da)) (pa : plain a = true) (hb : PE X b (rdE X.K db)) (pb : plain b = true) : PI X tg (.Call (.Name "range" p) [a, b] [] pos) (rdI X.K (iR2 da db)) :=
  (pi_range2 hg hm (pa_cons ha (pa_cons hb pa_nil (star_of pb)) (star_of pa)) (by rw [star_of pa, star_of pb]; rfl) (star_of pb)).wkn fun σ H R ⟨ι, e, h, q, k⟩ => ⟨ι, e, h, q, (KI.bindE k).imp fun v H1 ⟨d, h1, ι1, x1, R1, r1, k1⟩ => ⟨ι1, e, h1, R1, (KI.bindE k1).imp fun w H2 ⟨d2, h2, ι2, x2, R2, r2, k2⟩ => by
    cases d <;> try exact k2.elim
    cases d2 <;> try exact k2.elim
    cases r1; cases r2
    unfold asI at k2
    dsimp only at k2
    split at k2
    · split at k2
      · rename_i hz hy
        simp only [rngOk, Bool.and_eq_true, decide_eq_true_eq] at hz hy
        exact ⟨_, _, rfl, ⟨by omega, by omega, by omega, by omega⟩, k2 ι2 H2 _ .refl R2 wk_rng⟩
      · exact k2.elim
    · exact k2.elim⟩⟩
end
end Ev
/-! EvH: list comprehensions. -/
namespace Ev
open PySem PySem.Spec L2
variable [TheW]

def wipeE (e : En) : List Nat → En
  | [] => e
  | v :: vs => (wipeE e vs).set v none
/-- the target of a comprehension: a name, names -/
inductive CT where
  | name (i : Nat) | tup (is : List Nat)
def CT.slots : CT → List Nat
  | .name i => [i]
  | .tup is => is
def setsE (e : En) : List Nat → List D → En
  | i :: is, d :: ds => setsE (e.set i (some d)) is ds
  | _, _ => e
def setsV (σ : St) : List Nat → List V → St
  | i :: is, v :: vs => setsV (σ.set i (some v)) is vs
  | _, _ => σ
def CT.put (t : CT) (d : D) (e : En) : Option En := match t with
  | .name i => some (e.set i (some d))
  | .tup is => match d with
    | .tup ds => if ds.length = is.length then some (setsE e is ds) else none
    | .lst ds => if ds.length = is.length then some (setsE e is ds) else none
    | _ => none
def gNames : List Nat → TGs
  | [] => gNil
  | i :: is => gCons (gName i) (gNames is)
def CT.rd (K : PySem.W.Frag) : CT → TG
  | .name i => gName i
  | .tup is => fun v σ H Q => gTup K is.length (gNames is) v σ H Q ∨ gLst K is.length (gNames is) v σ H Q
def orBad {α β : Type} (o : Option α) (f : α → Res β) : Res β := match o with
  | none => .bad
  | some a => f a
def compL (g : CT) (t : DenT) (el : Den) (e₀ : En) : List D → Hs → Res (List D)
  | [], h => .ok [] h
  | x :: xs, h => orBad (g.put x e₀) fun e₁ => (t e₁ h).bind fun b h => if b = true then (el e₁ h).bind fun y h => (compL g t el e₀ xs h).bind fun ys h => .ok (y :: ys) h else compL g t el e₀ xs h
def compR (s : Src) (h : Hs) (r : Res (List D)) : Res D := match r with
  | .ok ys h' => .ok (.lst ys) (unlockS s.lk h h')
  | _ => .bad
def dComp (own : List Nat) (it : DenI) (g : CT) (t : DenT) (el : Den) : Den := fun e h => (it e h).bind fun s h => if s.items.length ≤ sizeLine then compR s h (compL g t el (wipeE e own) s.items (lockS s.lk h)) else .bad
def tYs : DenT := fun _ h => .ok true h

section
variable {K : PySem.W.Frag} {ι ι1 ι' : Io} {h h1 h' : Hs} {H H1 H' : Hp} {e : En} {σ : St} {D₀ : Addr}
theorem RE.unset (r : RE K ι e σ H) (i : Nat) : RE K ι (e.set i none) (σ.set i none) H := by
  refine ⟨by rw [List.length_set, List.length_set]; exact r.len, fun j c q => ?_⟩
  by_cases hj : i = j
  · subst hj
    by_cases hl : i < e.length
    · rw [List.getElem?_set_self hl] at q; cases q
    · rw [List.getElem?_eq_none (by rw [List.length_set]; omega)] at q; cases q
  · rw [List.getElem?_set_ne hj] at q
    obtain ⟨w, a, b⟩ := r.get j c q
    exact ⟨w, by rw [List.getElem?_set_ne hj]; exact a, b⟩
theorem RE.wipe (r : RE K ι e σ H) : ∀ vs : List Nat, RE K ι (wipeE e vs) (wipe σ vs) H
  | [] => r
  | v :: vs => (RE.wipe r vs).unset v
theorem setsV_rd {Q : St → Hp → Prop} : ∀ {is : List Nat} {vs : List V} {σ : St}, vs.length = is.length → Q (setsV σ is vs) H → gNames is vs σ H Q
  | [], [], σ, _, q => ⟨rfl, q⟩
  | i :: is, v :: vs, σ, hl, q => ⟨v, vs, rfl, setsV_rd (is := is) (vs := vs) (by simpa using hl) q⟩
theorem RE.sets : ∀ {is : List Nat} {ds : List D} {vs : List V} {e : En} {σ : St}, RE K ι e σ H → RepL K ι H ds vs → RE K ι (setsE e is ds) (setsV σ is vs) H
  | [], _, _, _, _, r, _ => by cases ‹RepL K ι H _ _› <;> exact r
  | i :: is, _, _, _, _, r, .nil => r
  | i :: is, _, _, _, _, r, .cons a t => RE.sets (is := is) (r.set a i) t
theorem wipe_set {i : Nat} {o : Option V} : ∀ {vs : List Nat} {σ : St}, i ∈ vs → wipe (σ.set i o) vs = wipe σ vs
  | [], _, h => by cases h
  | v :: vs, σ, h => by
    show (wipe (σ.set i o) vs).set v none = (wipe σ vs).set v none
    by_cases hm : i ∈ vs
    · rw [wipe_set hm]
    · have hv : i = v := by
        rcases List.mem_cons.mp h with h | h
        · exact h
        · exact absurd h hm
      subst hv
      have comm : ∀ {vs : List Nat} {σ : St}, i ∉ vs → wipe (σ.set i o) vs = (wipe σ vs).set i o := by
        intro vs
        induction vs with
        | nil => intro σ _; rfl
        | cons w ws ih =>
          intro σ hn
          rw [List.mem_cons, not_or] at hn
          show (wipe (σ.set i o) ws).set w none = ((wipe σ ws).set w none).set i o
          rw [ih hn.2, List.set_comm _ _ hn.1]
      rw [comm hm, List.set_set]
theorem wipe_sets {own : List Nat} : ∀ {is : List Nat} {vs : List V} {σ : St}, (∀ i ∈ is, i ∈ own) → wipe (setsV σ is vs) own = wipe σ own
  | [], _, _, _ => by unfold setsV; rfl
  | i :: is, [], _, _ => by unfold setsV; rfl
  | i :: is, v :: vs, σ, h => by
    show wipe (setsV (σ.set i (some v)) is vs) own = _
    rw [wipe_sets (is := is) fun j hj => h j (List.mem_cons_of_mem _ hj), wipe_set (h i (List.mem_cons_self ..))]
theorem wipe_wipe {own : List Nat} {σ : St} : wipe (wipe σ own) own = wipe σ own := by
  have gen : ∀ {vs : List Nat}, (∀ v ∈ vs, v ∈ own) → wipe (wipe σ vs) own = wipe σ own := by
    intro vs
    induction vs with
    | nil => intro _; rfl
    | cons v vs ih =>
      intro hv
      show wipe ((wipe σ vs).set v none) own = _
      rw [wipe_set (hv v (List.mem_cons_self ..)), ih fun w hw => hv w (List.mem_cons_of_mem _ hw)]
  exact gen fun _ h => h
/-- the target's store -/
theorem CT.put_ok {g : CT} {d : D} {v : V} {e₁ : En} {own : List Nat} {Q : St → Hp → Prop} (R : RE K ι e σ H) (r : Rep K ι H d v) (q : g.put d e = some e₁) (ho : ∀ i ∈ g.slots, i ∈ own) (k : ∀ σ₁, RE K ι e₁ σ₁ H → wipe σ₁ own = wipe σ own → Q σ₁ H) : g.rd K v σ H Q := by
  cases g with
  | name i => cases q; exact k _ (R.set r i) (wipe_set (ho i (List.mem_cons_self ..)))
  | tup is =>
    unfold CT.put at q
    cases d <;> try cases q
    · dsimp only at q
      split at q
      · rename_i hl
        cases q
        cases r with
        | tup f t => exact .inl ⟨_, _, rfl, f.sq, by rw [← t.length]; exact hl, setsV_rd (by rw [← t.length]; exact hl) (k _ (RE.sets R t) (wipe_sets ho))⟩
      · cases q
    · dsimp only at q
      split at q
      · rename_i hl
        cases q
        cases r with
        | lst f t => exact .inr ⟨_, _, rfl, .of f.1, by rw [← t.length]; exact hl, setsV_rd (by rw [← t.length]; exact hl) (k _ (RE.sets R t) (wipe_sets ho))⟩
      · cases q

/-! ### the list that is made meanwhile -/
def Io.res (ι : Io) (a : Addr) : Io := ⟨ι.c, a :: ι.g⟩
theorem res_pres {u : HO} (hD : H D₀ = none) : Pres ι h H (ι.res D₀) h (upd H D₀ u) where
  pre := fun _ _ e => .inl e
  fz := fun a o e no => by
    have hne := ne_of_none e hD
    refine ⟨by rw [upd_ne hne]; exact e, fun z => ?_⟩
    rcases z with z | z
    · exact no (.inl z)
    · rcases List.mem_cons.mp z with z | z
      · exact hne z
      · exact no (.inr z)
  nm := fun n a o _ e no => ⟨by rw [upd_ne (ne_of_none e hD)]; exact e, no⟩
theorem ORep.pr {a : Addr} {o : O} (x : Pres ι h H ι' h' H') (e : H' a = H a) (r : ORep K ι H a o) : ORep K ι' H' a o := by
  cases o with
  | lst ds => obtain ⟨vs, w, t⟩ := r; exact ⟨vs, by rw [e]; exact w, t.pr x⟩
  | ins c ks ds => obtain ⟨C, dx, fs, w, n, k, t⟩ := r; exact ⟨C, dx, fs, by rw [e]; exact w, n, k, t.pr x⟩
  | dct ks ds => obtain ⟨kv, vv, f, k, t⟩ := r; exact ⟨kv, vv, f.at (fun o z => by rw [e]; exact z), k.pr x, t.pr x⟩
  | tbl P q => obtain ⟨rfl, r⟩ := r; exact ⟨rfl, r.pr x e⟩
theorem res_rh {u : HO} (R : RH K ι h H) (hD : H D₀ = none) (nu : NoC u := by first | assumption | exact noC_D (by assumption) | exact noC_DM (by assumption) | (intro c q z; unfold LamX.CodeO at z; cases z)) : RH K (ι.res D₀) h (upd H D₀ u) := by
  refine ⟨R.len, fun a m => ?_, fun a m n q => ?_, R.dead, fun n o q => ?_, R.inj⟩
  · rcases List.mem_cons.mp m with rfl | m
    · exact ⟨_, upd_same, nu⟩
    · obtain ⟨w, q, nc⟩ := R.gs a m
      exact ⟨w, by rw [upd_ne (ne_of_none q hD)]; exact q, nc⟩
  · rcases List.mem_cons.mp m with rfl | m
    · obtain ⟨w, z⟩ := R.own_some (.inl ⟨n, q⟩)
      rw [hD] at z; cases z
    · exact R.gd a m n q
  · obtain ⟨a, qa, w, b⟩ := R.cell n o q
    obtain ⟨z, s⟩ := R.own_some (.inl ⟨n, qa⟩)
    exact ⟨a, qa, w.pr (res_pres (h := h) hD) (upd_ne (ne_of_none s hD)), b⟩
theorem upg_pres {u : HO} (R : RH K ι h H) (hD : D₀ ∈ ι.g) : Pres ι h H ι h (upd H D₀ u) where
  pre := fun _ _ e => .inl e
  fz := fun a o e no => ⟨by rw [upd_ne (fun z => no (by rw [z]; exact .inr hD))]; exact e, no⟩
  nm := fun n a o q e no => ⟨by rw [upd_ne (fun z => R.gd D₀ hD n (by rw [← z]; exact q))]; exact e, no⟩
theorem upg_rh {u : HO} (R : RH K ι h H) (hD : D₀ ∈ ι.g) (nu : NoC u := by first | assumption | exact noC_D (by assumption) | exact noC_DM (by assumption) | (intro c q z; unfold LamX.CodeO at z; cases z)) : RH K ι h (upd H D₀ u) := by
  refine ⟨R.len, fun a m => ?_, R.gd, R.dead, fun n o q => ?_, R.inj⟩
  · by_cases z : a = D₀
    · exact ⟨u, by rw [z]; exact upd_same, nu⟩
    · obtain ⟨w, q, nc⟩ := R.gs a m
      exact ⟨w, by rw [upd_ne z]; exact q, nc⟩
  · obtain ⟨a, qa, w, b⟩ := R.cell n o q
    exact ⟨a, qa, w.pr (upg_pres R hD) (upd_ne fun z => R.gd D₀ hD n (by rw [← z]; exact qa)), b⟩
/-- how far one has come since the walk began -/
structure Wx (ι : Io) (h : Hs) (H : Hp) (D₀ : Addr) (ι' : Io) (h' : Hs) (H' : Hp) : Prop where
  g : ι'.g = D₀ :: ι.g
  pre : Pre ι h H ι' H'
  frame : ∀ a o, H a = some o → ¬ Mt ι h a → H' a = some o
  own : ∀ (n : Nat) a, ι'.c[n]? = some (some a) → (∃ m : Nat, ι.c[m]? = some (some a)) ∨ H a = none
  mt : ∀ a, Mt ι' h' a → Mt ι h a ∨ H a = none
  lk : ∀ (n : Nat) (o : O), h[n]? = some (.lock o) → h'[n]? = some (.lock o)
theorem Wx.start {u : HO} (R : RH K ι h H) (hD : H D₀ = none) : Wx ι h H D₀ (ι.res D₀) h (upd H D₀ u) :=
  ⟨rfl, fun _ _ e => .inl e, fun a o e _ => by rw [upd_ne (ne_of_none e hD)]; exact e, fun n a q => .inl ⟨n, q⟩, fun a m => .inl m, fun _ _ e => e⟩
theorem Wx.step {ι2 : Io} {h2 : Hs} {H2 : Hp} (w : Wx ι h H D₀ ι1 h1 H1) (hD : H D₀ = none) (R1 : RH K ι1 h1 H1) (R2 : RH K ι2 h2 H2) (x : Ext ι1 h1 H1 ι2 h2 H2) : Wx ι h H D₀ ι2 h2 H2 := by
  have nomt : ∀ a o, H a = some o → ¬ Mt ι h a → ¬ Mt ι1 h1 a := fun a o e nm m => by
    rcases w.mt a m with z | z
    · exact nm z
    · rw [z] at e; cases e
  have back : ∀ a, H1 a = none → (∃ m : Nat, ι.c[m]? = some (some a)) ∧ Mt ι h a ∨ H a = none := fun a e => by
    cases z : H a with
    | none => exact .inr rfl
    | some o =>
      by_cases m : Mt ι h a
      · exact .inl ⟨let ⟨n, q, _⟩ := m; ⟨n, q⟩, m⟩
      · rw [w.frame a o z m] at e; cases e
  refine ⟨x.g.trans w.g, w.pre.comp (h' := h1) (fun a m => by
    rcases m with m | m
    · exact w.mt a m
    · rcases back a m with ⟨_, z⟩ | z
      · exact .inl z
      · exact .inr z) x.pre fun a o e no => ⟨⟨o, x.frame a o e fun m => no m.own⟩, fun q => by
    rcases x.own a q with q | q
    · exact no q
    · rw [q] at e; cases e⟩, fun a o e nm => x.frame a o (w.frame a o e nm) (nomt a o e nm), fun n a q => ?_, fun a m => ?_, fun n o e => x.lk n o (w.lk n o e)⟩
  · rcases x.own a (.inl ⟨n, q⟩) with z | z
    · rcases z with ⟨k, z⟩ | z
      · exact w.own k a z
      · exact absurd q (R2.gd a (by rw [x.g]; exact z) n)
    · rcases back a z with ⟨z, _⟩ | z
      · exact .inl z
      · exact .inr z
  · rcases x.mt a m with z | z
    · exact w.mt a z
    · rcases back a z with ⟨_, z⟩ | z
      · exact .inl z
      · exact .inr z
theorem Wx.upg {u : HO} (w : Wx ι h H D₀ ι1 h1 H1) (hD : H D₀ = none) : Wx ι h H D₀ ι1 h1 (upd H1 D₀ u) :=
  ⟨w.g, fun n z e => (w.pre n z e).imp_right fun ⟨e1, k1⟩ => ⟨e1, fun a ea => ⟨(k1 a ea).1, (by
    obtain ⟨o, q⟩ := (k1 a ea).2.1
    by_cases c : a = D₀
    · exact ⟨u, by rw [c]; exact upd_same⟩
    · exact ⟨o, by rw [upd_ne c]; exact q⟩), (k1 a ea).2.2⟩⟩, fun a o e nm => by rw [upd_ne (ne_of_none e hD)]; exact w.frame a o e nm, w.own, w.mt, w.lk⟩
theorem Wx.done (w : Wx ι h H D₀ ι1 h1 H1) : Ext ι h H ⟨ι1.c, ι.g⟩ h1 H1 := by
  refine ⟨fun n z e => (w.pre n z e).imp_right fun ⟨e1, k1⟩ => ⟨e1, fun a ea => ⟨(k1 a ea).1, (k1 a ea).2.1, fun q => (k1 a ea).2.2 (q.imp_right fun q => by rw [w.g]; exact List.mem_cons_of_mem _ q)⟩⟩, w.frame, fun a o => ?_, fun a m => w.mt a m, w.lk, rfl⟩
  rcases o with ⟨n, q⟩ | o
  · rcases w.own n a q with z | z
    · exact .inl (.inl z)
    · exact .inr z
  · exact .inl (.inr o)
theorem unres_pres (w : ι1.g = D₀ :: ι.g) : Pres ι1 h1 H1 ⟨ι1.c, ι.g⟩ h1 H1 where
  pre := fun _ _ e => .inl e
  fz := fun a o e no => ⟨e, fun z => no (by
    rcases z with z | z
    · exact .inl z
    · exact .inr (by rw [w]; exact List.mem_cons_of_mem _ z))⟩
  nm := fun n a o _ e no => ⟨e, no⟩
theorem unres_rh (w : ι1.g = D₀ :: ι.g) (R : RH K ι1 h1 H1) : RH K ⟨ι1.c, ι.g⟩ h1 H1 := by
  refine ⟨R.len, fun a m => R.gs a (by rw [w]; exact List.mem_cons_of_mem _ m), fun a m => R.gd a (by rw [w]; exact List.mem_cons_of_mem _ m), R.dead, fun n o q => ?_, R.inj⟩
  obtain ⟨a, qa, r, b⟩ := R.cell n o q
  exact ⟨a, qa, r.pr (unres_pres (h1 := h1) w) rfl, b⟩
theorem orBad_ok {α β : Type} {o : Option α} {f : α → Res β} {b : β} {h : Hs} (q : orBad o f = .ok b h) : ∃ a, o = some a ∧ f a = .ok b h := by
  cases o with
  | none => cases q
  | some a => exact ⟨a, rfl, q⟩
theorem bind_ok {α β : Type} {r : Res α} {f : α → Hs → Res β} {b : β} {h : Hs} (q : r.bind f = .ok b h) : ∃ a h1, r = .ok a h1 ∧ f a h1 = .ok b h := by
  cases r with
  | ok a h1 => exact ⟨a, h1, rfl, q⟩
  | err _ _ => cases q
  | bad => cases q
theorem live_has (R : RH K ι h H) {n : Nat} {o : O} (q : h[n]? = some (.live o)) : ∃ a, ι.c[n]? = some (some a) := let ⟨a, q, _⟩ := R.cell n o (.inl q); ⟨a, q⟩
theorem lockS_rh (l : Option Nat) (R : RH K ι h H) : RH K ι (lockS l h) H := by
  cases l with
  | none => exact R
  | some n => exact lock_rh n R
theorem unlockS_ext {l : Option Nat} (R0 : RH K ι h H) (R : RH K ι' h' H') (x : Ext ι (lockS l h) H ι' h' H') : Ext ι h H ι' (unlockS l h h') H' ∧ RH K ι' (unlockS l h h') H' := by
  cases l with
  | none => exact ⟨x, R⟩
  | some n => exact unlock_ext R x fun o q => live_has R0 q
theorem lock_pres (l : Option Nat) : Pres ι h H ι (lockS l h) H where
  pre := fun _ _ e => .inl e
  fz := fun a o e no => ⟨e, no⟩
  nm := fun n a o _ e no => ⟨e, fun m => no (by
    cases l with
    | none => exact m
    | some n => exact lockC_mt m)⟩
theorem comp_core {it : DenI} {g : CT} {t : DenT} {el : Den} {own : List Nat} {Q : VK} (ho : ∀ i ∈ g.slots, i ∈ own) (R : Rl K ι e h σ H) (k : Kd K ι h H e σ (dComp own it g t el e h) Q) : tLc (rdI K it) (g.rd K) (rdT K t) (rdE K el) own σ H Q := by
  refine ⟨ι, e, h, R, ?_⟩
  unfold dComp at k
  cases qi : it e h with
  | err _ _ => rw [qi] at k; exact k
  | bad => rw [qi] at k; exact k
  | ok s h1 =>
  rw [qi] at k
  intro ι1 H1 J x1 R1 wk D₀ hD
  have k : Kd K ι h H e σ (if s.items.length ≤ sizeLine then compR s h1 (compL g t el (wipeE e own) s.items (lockS s.lk h1)) else .bad) Q := k
  split at k
  rotate_left
  · exact k.elim
  rename_i hz
  obtain ⟨S, hS, sst, sgo, sstop⟩ := wk.ex
  cases qc : compL g t el (wipeE e own) s.items (lockS s.lk h1) with
  | err _ _ => rw [qc] at k; exact k.elim
  | bad => rw [qc] at k; exact k.elim
  | ok zs hE =>
  rw [qc] at k
  have k : Kd K ι h H e σ (.ok (.lst zs) (unlockS s.lk h1 hE)) Q := k
  have RL := lockS_rh s.lk R1.rh
  let Pv : Nat → Hp → Prop := fun i H' => ∃ ι' h' ys vs, Wx ι1 (lockS s.lk h1) H1 D₀ ι' h' H' ∧ RH K ι' h' H' ∧ RE K ι' (wipeE e own) (wipe σ own) H' ∧ S ι' h' H' ∧ H' D₀ = some (.lst vs) ∧ RepL K ι' H' ys vs ∧ ys.length ≤ i ∧
    (compL g t el (wipeE e own) (s.items.drop i) h').bind (fun ws h => .ok (ys ++ ws) h) = .ok zs hE
  have start : Pv 0 (upd H1 D₀ (.lst [])) := by
    refine ⟨ι1.res D₀, lockS s.lk h1, [], [], Wx.start RL hD, res_rh RL hD, (R1.re.pr (res_pres (h := lockS s.lk h1) hD)).wipe own, sst _ _ _ _ _ _ hS (res_pres hD), upd_same, .nil, Nat.zero_le _, ?_⟩
    rw [List.drop_zero, qc]
    rfl
  refine ⟨fun i m H' => m = s.items.length - i ∧ i ≤ s.items.length ∧ Pv i H', ⟨s.items.length, by simp, Nat.zero_le _, start⟩, ?_⟩
  rintro i m H2 ⟨rfl, hi, ι2, h2, ys, vs, w, R2, E2, S2, hv, ry, hy, eq⟩
  by_cases hlt : i < s.items.length
  · right
    have qd : s.items[i]? = some s.items[i] := List.getElem?_eq_getElem hlt
    obtain ⟨go, yl⟩ := sgo ι2 h2 H2 i _ S2 R2 qd
    refine ⟨go, Pv (i + 1), fun H' p => ⟨s.items.length - (i + 1), by omega, rfl, by omega, p⟩, fun x H3 yld => ?_⟩
    obtain ⟨x3, R3, rx⟩ := yl x H3 yld
    have hg2 : D₀ ∈ ι2.g := by rw [w.g]; exact List.mem_cons_self ..
    rw [List.drop_eq_getElem_cons hlt] at eq
    obtain ⟨ws, hw, e1, e2⟩ := bind_ok eq
    unfold compL at e1
    obtain ⟨e₁, q1, e1⟩ := orBad_ok e1
    obtain ⟨b, h4, qt, e1⟩ := bind_ok e1
    have w3 := w.step hD R2 R3 x3
    have nmD : ¬ Mt ι2 h2 D₀ := fun ⟨n, q, _⟩ => R2.gd D₀ hg2 n q
    refine CT.put_ok (E2.ext x3) rx q1 ho fun σ₁ E3 ew => ⟨by rw [ew, wipe_wipe], ι2, e₁, h2, ⟨R3, E3⟩, ?_⟩
    rw [qt]
    intro ι4 H4 c x4 R4 rb
    cases rb
    have w4 := w3.step hD R3 R4.rh x4
    have E4 : RE K ι4 (wipeE e own) (wipe σ own) H4 := (E2.ext x3).ext x4
    have S4 : S ι4 h4 H4 := sst _ _ _ _ _ _ S2 (x3.trans x4).pres
    have hv4 : H4 D₀ = some (.lst vs) := (x3.trans x4).frame _ _ hv nmD
    have ry4 := (ry.ext x3).ext x4
    cases b with
    | false =>
      have e1 : compL g t el (wipeE e own) (s.items.drop (i + 1)) h4 = .ok ws hw := e1
      show Pv (i + 1) H4
      refine ⟨ι4, h4, ys, vs, w4, R4.rh, E4, S4, hv4, ry4, by omega, ?_⟩
      rw [e1]
      exact e2
    | true =>
      have e1 : ((el e₁ h4).bind fun y h => (compL g t el (wipeE e own) (s.items.drop (i + 1)) h).bind fun ys h => .ok (y :: ys) h) = .ok ws hw := e1
      obtain ⟨y, h5, qe, e1⟩ := bind_ok e1
      refine ⟨ι4, e₁, h4, R4, ?_⟩
      rw [qe]
      intro ι5 H5 v x5 R5 rv
      obtain ⟨us, h6, qu, e3⟩ := bind_ok e1
      cases e3
      have nmD4 : ¬ Mt ι4 h4 D₀ := fun ⟨n, q, _⟩ => R4.rh.gd D₀ (by rw [x4.g, x3.g]; exact hg2) n q
      have hg5 : D₀ ∈ ι5.g := by rw [x5.g, x4.g, x3.g]; exact hg2
      have hv5 : H5 D₀ = some (.lst vs) := x5.frame _ _ hv4 nmD4
      refine ⟨vs, hv5, by rw [← ry.length]; omega, ?_⟩
      have pu := upg_pres (D₀ := D₀) (u := .lst (vs ++ [v])) R5.rh hg5
      refine ⟨ι5, h5, ys ++ [y], vs ++ [v], (w4.step hD R4.rh R5.rh x5).upg hD, upg_rh R5.rh hg5, (E4.ext x5).pr pu, sst _ _ _ _ _ _ (sst _ _ _ _ _ _ S4 x5.pres) pu, upd_same, ((ry4.ext x5).append (.cons rv .nil)).pr pu, by rw [List.length_append]; simp; omega, ?_⟩
      rw [qu]
      cases e2
      show Res.ok _ _ = _
      rw [List.append_assoc]
      rfl
  · left
    have hi' : i = s.items.length := by omega
    subst hi'
    refine ⟨sstop _ _ _ S2, ?_⟩
    rw [List.drop_length] at eq
    cases eq
    rw [List.append_nil] at k
    have x := w.done
    obtain ⟨xe, re⟩ := unlockS_ext R1.rh (unres_rh w.g R2) x
    refine k _ _ (.ref D₀) (x1.trans xe) ⟨re, R1.re.ext xe⟩ (.lst ⟨hv, fun o => ?_⟩ (ry.pr (unres_pres (h1 := hE) w.g)))
    rcases o with ⟨n, q⟩ | o
    · exact R2.gd D₀ (by rw [w.g]; exact List.mem_cons_self ..) n q
    · obtain ⟨u, z, _⟩ := R1.rh.gs D₀ o
      rw [hD] at z; cases z
end
end Ev
/-! EvI: statements. -/
namespace Ev
open PySem PySem.Spec L2
variable [TheW]

inductive Fl where
  | nx (e : En) (h : Hs) | rt (d : D) (h : Hs) | bk (e : En) (h : Hs) | ct (e : En) (h : Hs) | err (x : D) (h : Hs) | bad
abbrev DenS := En → Hs → Fl
def Res.to {α : Type} (r : Res α) (f : α → Hs → Fl) : Fl := match r with
  | .ok a h => f a h
  | .err x h => .err x h
  | .bad => .bad
/-- what is wanted behind a statement -/
def KS (K : PySem.W.Frag) (ι : Io) (h : Hs) (H : Hp) (f : Fl) (Z : Ends) : Prop := match f with
  | .nx e h' => ∀ ι' σ' H', Ext ι h H ι' h' H' → Rl K ι' e h' σ' H' → Z.nx σ' H'
  | .rt d h' => ∀ ι' H' v, Ext ι h H ι' h' H' → RH K ι' h' H' → Rep K ι' H' d v → Z.rt v H'
  | .bk e h' => ∀ ι' σ' H', Ext ι h H ι' h' H' → Rl K ι' e h' σ' H' → Z.bk σ' H'
  | .ct e h' => ∀ ι' σ' H', Ext ι h H ι' h' H' → Rl K ι' e h' σ' H' → Z.ct σ' H'
  | _ => False
def rdS (K : PySem.W.Frag) (s : DenS) : TS := fun Z σ H => ∃ ι e h, Rl K ι e h σ H ∧ KS K ι h H (s e h) Z
section
variable {K : PySem.W.Frag} {ι ι1 : Io} {h h1 : Hs} {H H1 : Hp} {e : En} {σ : St} {Z Z' : Ends} {f : Fl}
theorem KS.after (k : KS K ι h H f Z) (x : Ext ι h H ι1 h1 H1) : KS K ι1 h1 H1 f Z := by
  cases f with
  | nx e h' => exact fun ι' σ' H' y R => k ι' σ' H' (x.trans y) R
  | rt d h' => exact fun ι' H' v y R r => k ι' H' v (x.trans y) R r
  | bk e h' => exact fun ι' σ' H' y R => k ι' σ' H' (x.trans y) R
  | ct e h' => exact fun ι' σ' H' y R => k ι' σ' H' (x.trans y) R
  | err _ _ => exact k
  | bad => exact k
theorem KS.bind {α β : Type} {RR : Io → Hp → α → β → Prop} {r : Res α} {g : α → Hs → Fl} (k : KS K ι h H (r.to g) Z) : Kg RR K ι h H e σ r fun b H1 => ∃ a h1 ι1, Ext ι h H ι1 h1 H1 ∧ Rl K ι1 e h1 σ H1 ∧ RR ι1 H1 a b ∧ KS K ι1 h1 H1 (g a h1) Z := by
  cases r with
  | ok a h' => exact fun ι' H' b y R rr => ⟨a, h', ι', y, R, rr, KS.after k y⟩
  | err _ _ => exact k
  | bad => exact k
end
def sSeq (s t : DenS) : DenS := fun e h => match s e h with
  | .nx e h => t e h
  | f => f
def sPass : DenS := fun e h => .nx e h
def sBrk : DenS := fun e h => .bk e h
def sCnt : DenS := fun e h => .ct e h
def sExpr (a : Den) : DenS := fun e h => (a e h).to fun _ h => .nx e h
def sRet (a : Den) : DenS := fun e h => (a e h).to fun d h => .rt d h
def sRetN : DenS := fun _ h => .rt .non h
def sIf (t : DenT) (a b : DenS) : DenS := fun e h => (t e h).to fun c h => if c = true then a e h else b e h
def sAsg (g : DenG) (a : Den) : DenS := fun e h => (a e h).to fun d h => (g d e h).to fun e h => .nx e h
section
variable {X : Cx} {a b c : Expr} {pos : Pos} {da db : Den} {ta : DenT} {s t : DenS} {st : Stmt} {sts ss : List Stmt}
theorem _root_.L2.PS.wkn {t t' : TS} (p : PS X st t) (i : ∀ Z σ H, t' Z σ H → t Z σ H) : PS X st t' := ⟨fun pins s σ H D I q => p.run pins s σ H D I (i _ _ _ q)⟩
theorem _root_.L2.PSs.wkn {t t' : TS} (p : PSs X sts t) (i : ∀ Z σ H, t' Z σ H → t Z σ H) : PSs X sts t' := ⟨fun pins s σ H D I q => p.run pins s σ H D I (i _ _ _ q)⟩
theorem ss_nil : PSs X [] (rdS X.K sPass) := pss_nil.wkn fun Z σ H ⟨ι, e, h, R, k⟩ => k ι σ H .refl R
theorem ss_cons (h1 : PS X st (rdS X.K s)) (h2 : PSs X sts (rdS X.K t)) : PSs X (st :: sts) (rdS X.K (sSeq s t)) :=
  (pss_cons h1 h2).wkn fun Z σ H ⟨ι, e, h, R, k⟩ => ⟨ι, e, h, R, by
    unfold sSeq at k
    cases q : s e h with
    | nx e1 h1 => rw [q] at k; exact fun ι' σ' H' y R' => ⟨ι', e1, h1, R', KS.after k y⟩
    | rt d h' => rw [q] at k; exact k
    | bk e h' => rw [q] at k; exact k
    | ct e h' => rw [q] at k; exact k
    | err _ _ => rw [q] at k; exact k
    | bad => rw [q] at k; exact k⟩
theorem p_pass : PS X (.Pass pos) (rdS X.K sPass) := ps_pass.wkn fun Z σ H ⟨ι, e, h, R, k⟩ => k ι σ H .refl R
theorem p_brk : PS X (.Break pos) (rdS X.K sBrk) := ps_break.wkn fun Z σ H ⟨ι, e, h, R, k⟩ => k ι σ H .refl R
theorem p_cnt : PS X (.Continue pos) (rdS X.K sCnt) := ps_continue.wkn fun Z σ H ⟨ι, e, h, R, k⟩ => k ι σ H .refl R
/-- no comprehension -/
def nocomp : Expr → Bool
  | .ListComp .. => false
  | .SetComp .. => false
  | .DictComp .. => false
  | _ => true
theorem noswap {v : Expr} {t : Option Expr} {n : Nat} {env : Env} (h : nocomp v = true) : swapsWith v t n env = pure false := by
  cases v <;> first | rfl | cases h
theorem p_expr (ha : PE X a (rdE X.K da)) (hc : nocomp a = true) : PS X (.Expr a pos) (rdS X.K (sExpr da)) :=
  (ps_expr ha (noswap hc)).wkn fun Z σ H ⟨ι, e, h, R, k⟩ => ⟨ι, e, h, R, (KS.bind (RR := Rep X.K) k).imp fun v H1 ⟨d, h1, ι1, x1, R1, r1, k1⟩ => k1 ι1 σ H1 .refl R1⟩
theorem p_ret (ha : PE X a (rdE X.K da)) : PS X (.Return (some a) pos) (rdS X.K (sRet da)) :=
  (ps_ret ha).wkn fun Z σ H ⟨ι, e, h, R, k⟩ => ⟨ι, e, h, R, (KS.bind (RR := Rep X.K) k).imp fun v H1 ⟨d, h1, ι1, x1, R1, r1, k1⟩ => k1 ι1 H1 v .refl R1.rh r1⟩
theorem p_retN : PS X (.Return none pos) (rdS X.K sRetN) := ps_retN.wkn fun Z σ H ⟨ι, e, h, R, k⟩ => k ι H _ .refl R.rh .non
theorem p_if (ht : PT X c (rdT X.K ta)) (h1 : PSs X sts (rdS X.K s)) (h2 : PSs X ss (rdS X.K t)) : PS X (.If c sts ss pos) (rdS X.K (sIf ta s t)) :=
  (ps_if ht h1 h2).wkn fun Z σ H ⟨ι, e, h, R, k⟩ => ⟨ι, e, h, R, (KS.bind (RR := RB) k).imp fun b H1 ⟨d, h1, ι1, x1, R1, r1, k1⟩ => by
    cases r1
    cases b with
    | true => exact ⟨ι1, e, h1, R1, k1⟩
    | false => exact ⟨ι1, e, h1, R1, k1⟩⟩
theorem asg_rd {K : PySem.W.Frag} {g : DenG} {Z : Ends} {σ : St} {H : Hp} (h : rdS K (sAsg g da) Z σ H) : tAsg (rdE K da) (rdG K g) Z σ H := by
  obtain ⟨ι, e, h, R, k⟩ := h
  refine ⟨ι, e, h, R, (KS.bind (RR := Rep K) k).imp fun v H1 ⟨d, h1, ι1, x1, R1, r1, k1⟩ => ⟨ι1, e, h1, d, R1, r1, ?_⟩⟩
  cases q : g d e h1 with
  | ok e2 h2 => rw [q] at k1; exact fun ι' σ' H' y R' => k1 ι' σ' H' y R'
  | err _ _ => rw [q] at k1; exact k1
  | bad => rw [q] at k1; exact k1
theorem p_asg {tg : Expr} {g : DenG} (ha : PE X a (rdE X.K da)) (hg : PG X tg (rdG X.K g)) (hc : nocomp a = true) (hw : swappedStores [tg] a X.env = pure none) (h1 : (assignEach [tg] X.env).map (·.2) = [assign tg X.env]) : PS X (.Assign [tg] a pos) (rdS X.K (sAsg g da)) :=
  (ps_asg ha hg (noswap hc) hw h1).wkn fun Z σ H h => asg_rd h
theorem p_setW {i : Nat} {x : Str} {pos' : Pos} (hN : X.N.Nodup) (hi : X.N[i]? = some x) (hx : Loc X.env.scope x) (ha : PE X a (rdE X.K da)) (hc : swapsWith a (some (.Name x pos')) pos.line X.env = pure false) (hf : X.fn x = true ∨ X.env.scope.names.lookup x = some .local) : PS X (.Assign [.Name x pos'] a pos) (rdS X.K (sAsg (gNm i) da)) :=
  (ps_set hN hi hx ha hc hf).wkn fun Z σ H h => by
    obtain ⟨ι, e, h, R, k⟩ := h
    refine ⟨ι, e, h, R, (KS.bind (RR := Rep X.K) k).imp fun v H1 ⟨d, h1, ι1, x1, R1, r1, k1⟩ => ?_⟩
    unfold gNm at k1
    split at k1
    · exact k1 ι1 _ H1 .refl ⟨R1.rh, R1.re.set r1 i⟩
    · exact k1.elim
theorem p_set {i : Nat} {x : Str} {pos' : Pos} (hN : X.N.Nodup) (hi : X.N[i]? = some x) (hx : Loc X.env.scope x) (ha : PE X a (rdE X.K da)) (hc : nocomp a = true) (hf : X.fn x = true ∨ X.env.scope.names.lookup x = some .local) : PS X (.Assign [.Name x pos'] a pos) (rdS X.K (sAsg (gNm i) da)) := p_setW hN hi hx ha (noswap hc) hf
/-! ### names = values, at once -/
def sPar (is : List Nat) (a : DenA) : DenS := fun e h => (a e h).to fun ds h => if ds.length = is.length then .nx (setsE e is ds) h else .bad
theorem par_rd {K : PySem.W.Frag} {is : List Nat} {da : DenA} {Z : Ends} {σ : St} {H : Hp} (h : rdS K (sPar is da) Z σ H) : rdA K da σ H fun vs H1 => vs.length = is.length ∧ Z.nx (setsV σ is vs) H1 := by
  obtain ⟨ι, e, h, R, k⟩ := h
  refine ⟨ι, e, h, R, (KS.bind (RR := RepL K) k).imp fun vs H1 ⟨ds, h1, ι1, x1, R1, r1, k1⟩ => ?_⟩
  split at k1
  · rename_i hl
    exact ⟨by rw [← r1.length]; exact hl, k1 ι1 _ H1 .refl ⟨R1.rh, RE.sets R1.re r1⟩⟩
  · exact k1.elim
theorem rdA_imp {K : PySem.W.Frag} {da : DenA} {σ : St} {H : Hp} {Q Q' : List V → Hp → Prop} (h : rdA K da σ H Q) (i : ∀ vs H, Q vs H → Q' vs H) : rdA K da σ H Q' := let ⟨ι, e, h, R, k⟩ := h; ⟨ι, e, h, R, k.imp i⟩
theorem p_par2 {i j : Nat} {x y : Str} {da : DenA} {px py pt : Pos} {kt k2 pt2} (hc : X.calm = true) (hN : X.N.Nodup) (hi : X.N[i]? = some x) (hj : X.N[j]? = some y) (hij : i ≠ j) (hx : X.env.scope.names.lookup x = some .local) (hy : X.env.scope.names.lookup y = some .local) (ha : PA X [a, b] (rdA X.K da))
    (hw : swappedStores [.Tuple [.Name x px, .Name y py] kt pt] (.Tuple [a, b] k2 pt2) X.env = pure (some [x, y])) : PS X (.Assign [.Tuple [.Name x px, .Name y py] kt pt] (.Tuple [a, b] k2 pt2) pos) (rdS X.K (sPar [i, j] da)) :=
  (ps_par hc hN hi hj hij hx hy ha hw rfl).wkn fun Z σ H h => rdA_imp (par_rd h) fun vs H1 ⟨hl, q⟩ => by
    match vs, hl, q with
    | [v, w], _, q => exact ⟨v, w, rfl, q⟩
theorem p_par3 {i j l : Nat} {x y z : Str} {da : DenA} {px py pz pt : Pos} {kt k2 pt2} (hc : X.calm = true) (hN : X.N.Nodup) (hi : X.N[i]? = some x) (hj : X.N[j]? = some y) (hl : X.N[l]? = some z) (hij : i ≠ j) (hil : i ≠ l) (hjl : j ≠ l) (hx : X.env.scope.names.lookup x = some .local) (hy : X.env.scope.names.lookup y = some .local) (hz : X.env.scope.names.lookup z = some .local) (ha : PA X [a, b, c] (rdA X.K da))
    (hw : swappedStores [.Tuple [.Name x px, .Name y py, .Name z pz] kt pt] (.Tuple [a, b, c] k2 pt2) X.env = pure (some [x, y, z])) : PS X (.Assign [.Tuple [.Name x px, .Name y py, .Name z pz] kt pt] (.Tuple [a, b, c] k2 pt2) pos) (rdS X.K (sPar [i, j, l] da)) :=
  (ps_par3 hc hN hi hj hl hij hil hjl hx hy hz ha hw rfl).wkn fun Z σ H h => rdA_imp (par_rd h) fun vs H1 ⟨hl, q⟩ => by
    match vs, hl, q with
    | [v, w, u], _, q => exact ⟨v, w, u, rfl, q⟩
end
end Ev
/-! EvJ: loops; new cells; append. -/
namespace Ev
open PySem PySem.Spec L2
variable [TheW]

def forL (g : DenG) (body : DenS) : List D → En → Hs → Fl
  | [], e, h => .nx e h
  | x :: xs, e, h => (g x e h).to fun e h => match body e h with
    | .nx e h => forL g body xs e h
    | .ct e h => forL g body xs e h
    | .bk e h => .nx e h
    | f => f
def unlockF (l : Option Nat) (h₀ : Hs) (f : Fl) : Fl := match f with
  | .nx e h => .nx e (unlockS l h₀ h)
  | .rt d h => .rt d (unlockS l h₀ h)
  | .err x h => .err x (unlockS l h₀ h)
  | _ => .bad
def sFor (it : DenI) (g : DenG) (body : DenS) : DenS := fun e h => (it e h).to fun s h => unlockF s.lk h (forL g body s.items e (lockS s.lk h))
def whileL (t : DenT) (body : DenS) : Nat → En → Hs → Fl
  | 0, _, _ => .bad
  | n + 1, e, h => (t e h).to fun b h => if b = true then (match body e h with
    | .nx e h => whileL t body n e h
    | .ct e h => whileL t body n e h
    | .bk e h => .nx e h
    | f => f) else .nx e h
def wFuel : Nat := 1000000000000
def sWhile (t : DenT) (body : DenS) : DenS := fun e h => whileL t body wFuel e h
section
variable {X : Cx} {tg it c : Expr} {pos : Pos} {s : DenS} {ta : DenT} {g : DenG} {di : DenI} {sts : List Stmt}
theorem p_for (hp : PassesOwn (model X.prog X.w) X.A X.env X.xe) (hc : X.calm = true) (hi : PI X tg it (rdI X.K di)) (hg : PG X tg (rdG X.K g)) (hb : PSs X sts (rdS X.K s)) (hs : ∀ x, foldedSetIterable it X.env x = pure x) : PS X (.For tg it sts [] pos) (rdS X.K (sFor di g s)) := by
  refine (ps_for hp hc hi hg hb hs).wkn fun Z σ H ⟨ι, e, h, R, k⟩ => ⟨ι, e, h, R, ?_⟩
  unfold sFor at k
  cases qi : di e h with
  | err _ _ => rw [qi] at k; exact k
  | bad => rw [qi] at k; exact k
  | ok sr h1 =>
  rw [qi] at k
  have k : KS X.K ι h H (unlockF sr.lk h1 (forL g s sr.items e (lockS sr.lk h1))) Z := k
  intro ι1 H1 J x1 R1 wk
  obtain ⟨S, hS, sst, sgo, sstop⟩ := wk.ex
  have RL := lockS_rh sr.lk R1.rh
  generalize eF : forL g s sr.items e (lockS sr.lk h1) = F at k
  refine ⟨fun i m σ' H' => m = sr.items.length - i ∧ i ≤ sr.items.length ∧ ∃ ι' e' h', Ext ι1 (lockS sr.lk h1) H1 ι' h' H' ∧ Rl X.K ι' e' h' σ' H' ∧ S ι' h' H' ∧ forL g s (sr.items.drop i) e' h' = F,
    ⟨sr.items.length, by simp, Nat.zero_le _, ι1, e, _, .refl, ⟨RL, R1.re⟩, hS, by rw [List.drop_zero]; exact eF⟩, ?_⟩
  rintro i m σ2 H2 ⟨rfl, hi, ι2, e2, h2, x2, R2, S2, eq⟩
  have out : ∀ {ι' : Io} {h' : Hs} {H' : Hp}, Ext ι1 (lockS sr.lk h1) H1 ι' h' H' → RH X.K ι' h' H' → Ext ι h H ι' (unlockS sr.lk h1 h') H' ∧ RH X.K ι' (unlockS sr.lk h1 h') H' := fun x r => by
    obtain ⟨a, b⟩ := unlockS_ext R1.rh r x
    exact ⟨x1.trans a, b⟩
  by_cases hlt : i < sr.items.length
  · right
    have qd : sr.items[i]? = some sr.items[i] := List.getElem?_eq_getElem hlt
    obtain ⟨go, yl⟩ := sgo ι2 h2 H2 i _ S2 R2.rh qd
    refine ⟨go, fun σ' H' => ∃ ι' e' h', Ext ι1 (lockS sr.lk h1) H1 ι' h' H' ∧ Rl X.K ι' e' h' σ' H' ∧ S ι' h' H' ∧ forL g s (sr.items.drop (i + 1)) e' h' = F, fun σ' H' p => ⟨sr.items.length - (i + 1), by omega, rfl, by omega, p⟩, fun x H3 yld => ?_⟩
    obtain ⟨x3, R3, rx⟩ := yl x H3 yld
    rw [List.drop_eq_getElem_cons hlt] at eq
    unfold forL at eq
    refine ⟨ι2, e2, h2, _, ⟨R3, R2.re.ext x3⟩, rx, ?_⟩
    cases qg : g sr.items[i] e2 h2 with
    | err _ _ => rw [qg] at eq; subst eq; exact k
    | bad => rw [qg] at eq; subst eq; exact k
    | ok e4 h4 =>
    rw [qg] at eq
    intro ι4 σ4 H4 x4 R4
    refine ⟨ι4, e4, h4, R4, ?_⟩
    have x24 := (x2.trans x3).trans x4
    have S4 := sst _ _ _ _ _ _ S2 (x3.trans x4).pres
    have eq : (match s e4 h4 with
      | .nx e h => forL g s (sr.items.drop (i + 1)) e h
      | .ct e h => forL g s (sr.items.drop (i + 1)) e h
      | .bk e h => .nx e h
      | f => f) = F := eq
    cases qb : s e4 h4 with
    | nx e5 h5 =>
      rw [qb] at eq
      exact fun ι5 σ5 H5 x5 R5 => ⟨ι5, e5, h5, x24.trans x5, R5, sst _ _ _ _ _ _ S4 x5.pres, eq⟩
    | ct e5 h5 =>
      rw [qb] at eq
      exact fun ι5 σ5 H5 x5 R5 => ⟨ι5, e5, h5, x24.trans x5, R5, sst _ _ _ _ _ _ S4 x5.pres, eq⟩
    | bk e5 h5 =>
      rw [qb] at eq
      dsimp only at eq
      subst eq
      intro ι5 σ5 H5 x5 R5
      obtain ⟨a, b⟩ := out (x24.trans x5) R5.rh
      exact k ι5 σ5 H5 a ⟨b, R5.re⟩
    | rt d h5 =>
      rw [qb] at eq
      dsimp only at eq
      subst eq
      intro ι5 H5 v x5 R5 rv
      obtain ⟨a, b⟩ := out (x24.trans x5) R5
      exact k ι5 H5 v a b rv
    | err _ _ => rw [qb] at eq; dsimp only at eq; subst eq; exact k
    | bad => rw [qb] at eq; dsimp only at eq; subst eq; exact k
  · left
    have hi' : i = sr.items.length := by omega
    subst hi'
    refine ⟨sstop _ _ _ S2, ?_⟩
    rw [List.drop_length] at eq
    unfold forL at eq
    subst eq
    obtain ⟨a, b⟩ := out x2 R2.rh
    exact k ι2 σ2 H2 a ⟨b, R2.re⟩
theorem p_while (hp : PassesOwn (model X.prog X.w) X.A X.env X.xe) (ht : PT X c (rdT X.K ta)) (hb : PSs X sts (rdS X.K s)) : PS X (.While c sts [] pos) (rdS X.K (sWhile ta s)) := by
  refine (ps_while hp ht hb).wkn fun Z σ H ⟨ι, e, h, R, k⟩ => ?_
  unfold sWhile at k
  generalize eF : whileL ta s wFuel e h = F at k
  refine ⟨fun m σ' H' => ∃ ι' e' h', Ext ι h H ι' h' H' ∧ Rl X.K ι' e' h' σ' H' ∧ whileL ta s m e' h' = F, ⟨wFuel, ι, e, h, .refl, R, eF⟩, ?_⟩
  rintro m σ1 H1 ⟨ι1, e1, h1, x1, R1, eq⟩
  refine ⟨ι1, e1, h1, R1, ?_⟩
  cases m with
  | zero => unfold whileL at eq; subst eq; exact k.elim
  | succ m =>
  unfold whileL at eq
  cases qt : ta e1 h1 with
  | err _ _ => rw [qt] at eq; subst eq; exact k
  | bad => rw [qt] at eq; subst eq; exact k
  | ok b h2 =>
  rw [qt] at eq
  intro ι2 H2 c x2 R2 rb
  cases rb
  have x12 := x1.trans x2
  cases b with
  | false =>
    have eq : Fl.nx e1 h2 = F := eq
    subst eq
    exact k ι2 _ H2 x12 R2
  | true =>
    have eq : (match s e1 h2 with
      | .nx e h => whileL ta s m e h
      | .ct e h => whileL ta s m e h
      | .bk e h => .nx e h
      | f => f) = F := eq
    refine ⟨fun σ' H' => ∃ ι' e' h', Ext ι h H ι' h' H' ∧ Rl X.K ι' e' h' σ' H' ∧ whileL ta s m e' h' = F, fun σ' H' q => ⟨m, Nat.lt_succ_self m, q⟩, ι2, e1, h2, R2, ?_⟩
    cases qb : s e1 h2 with
    | nx e5 h5 => rw [qb] at eq; exact fun ι5 σ5 H5 x5 R5 => ⟨ι5, e5, h5, x12.trans x5, R5, eq⟩
    | ct e5 h5 => rw [qb] at eq; exact fun ι5 σ5 H5 x5 R5 => ⟨ι5, e5, h5, x12.trans x5, R5, eq⟩
    | bk e5 h5 => rw [qb] at eq; dsimp only at eq; subst eq; exact fun ι5 σ5 H5 x5 R5 => k ι5 σ5 H5 (x12.trans x5) R5
    | rt d h5 => rw [qb] at eq; dsimp only at eq; subst eq; exact fun ι5 H5 v x5 R5 rv => k ι5 H5 v (x12.trans x5) R5 rv
    | err _ _ => rw [qb] at eq; dsimp only at eq; subst eq; exact k
    | bad => rw [qb] at eq; dsimp only at eq; subst eq; exact k
end

/-! ### a new list in a cell -/
def rdN (K : PySem.W.Frag) (d : DenA) : TE := fun σ H Q => ∃ ι e h, Rl K ι e h σ H ∧ match d e h with
  | .ok xs h' => ∀ ι' H' p vs, ι'.g = p :: ι.g → Ext ι h H ⟨ι'.c, ι.g⟩ h' H' → RH K ι' h' H' → RE K ι' e σ H' → H' p = some (.lst vs) → RepL K ι' H' xs vs → H p = none → Q (.ref p) H'
  | _ => False
section
variable {K : PySem.W.Frag} {ι ι' : Io} {h h' : Hs} {H H' : Hp} {e : En} {σ : St} {p : Addr} {vs : List V} {xs : List D} {g : List Addr}
theorem get_snoc {α : Type} (l : List α) (x : α) (n : Nat) : (l ++ [x])[n]? = if n = l.length then some x else l[n]? := by
  by_cases z : n = l.length
  · rw [if_pos z, z, List.getElem?_append_right (Nat.le_refl _), Nat.sub_self]; rfl
  · rw [if_neg z]
    by_cases y : n < l.length
    · rw [List.getElem?_append_left y]
    · rw [List.getElem?_eq_none (by rw [List.length_append]; simp; omega), List.getElem?_eq_none (by omega)]
def Io.cellAt (ι' : Io) (p : Addr) (g : List Addr) : Io := ⟨ι'.c ++ [some p], g⟩
theorem nc_pres (R : RH K ι' h' H') (hg : ι'.g = p :: g) (o : O) : Pres ι' h' H' (ι'.cellAt p g) (h' ++ [.live o]) H' where
  pre := fun n x q => .inl <| by
    show (ι'.c ++ [some p])[n]? = _
    rw [get_snoc, if_neg (fun z => by rw [z, List.getElem?_eq_none (Nat.le_refl _)] at q; cases q)]
    exact q
  fz := fun a u q no => ⟨q, fun z => no (by
    rcases z with ⟨n, z⟩ | z
    · change (ι'.c ++ [some p])[n]? = _ at z
      rw [get_snoc] at z
      split at z
      · cases z; exact .inr (by rw [hg]; exact List.mem_cons_self ..)
      · exact .inl ⟨n, z⟩
    · exact .inr (by rw [hg]; exact List.mem_cons_of_mem _ z))⟩
  nm := fun n a u qn q no => ⟨q, fun ⟨m, z, o', w⟩ => by
    change (ι'.c ++ [some p])[m]? = _ at z
    rw [get_snoc] at z
    split at z
    · cases z
      exact R.gd p (by rw [hg]; exact List.mem_cons_self ..) n qn
    · rename_i hm
      rw [get_snoc, if_neg (by rw [← R.len]; exact hm)] at w
      exact no ⟨m, z, o', w⟩⟩
theorem nc_rhO {o₁ : O} (R : RH K ι' h' H') (hg : ι'.g = p :: g) (hn : p ∉ g) (hp : ORep K ι' H' p o₁) (u : o₁.und h'.length = true) : RH K (ι'.cellAt p g) (h' ++ [.live o₁]) H' := by
  have P := nc_pres R hg o₁
  refine ⟨?_, fun a m => R.gs a (by rw [hg]; exact List.mem_cons_of_mem _ m), fun a m n q => ?_, fun n q => ?_, fun n o q => ?_, fun n m a q1 q2 => ?_⟩
  · show (ι'.c ++ [some p]).length = _
    rw [List.length_append, List.length_append, R.len]
    rfl
  · change (ι'.c ++ [some p])[n]? = _ at q
    rw [get_snoc] at q
    split at q
    · cases q; exact hn m
    · exact R.gd a (by rw [hg]; exact List.mem_cons_of_mem _ m) n q
  · rw [get_snoc] at q
    split at q
    · cases q
    · rename_i hn
      show (ι'.c ++ [some p])[n]? = _
      rw [get_snoc, if_neg (by rw [R.len]; exact hn)]
      exact R.dead n q
  · rw [get_snoc] at q
    split at q
    · rename_i hn
      have eo : o = o₁ := by
        rcases q with q | q
        · cases q; rfl
        · cases q
      subst eo
      exact ⟨p, by show (ι'.c ++ [some p])[n]? = _; rw [get_snoc, if_pos (by rw [R.len]; exact hn)], hp.pr P rfl, by rw [hn]; exact u⟩
    · obtain ⟨a, qa, w, b⟩ := R.cell n o q
      exact ⟨a, by
        show (ι'.c ++ [some p])[n]? = _
        rw [get_snoc, if_neg (fun z => by rw [z, List.getElem?_eq_none (Nat.le_refl _)] at qa; cases qa)]
        exact qa, w.pr P rfl, b⟩
  · change (ι'.c ++ [some p])[n]? = _ at q1
    change (ι'.c ++ [some p])[m]? = _ at q2
    have no : ∀ k : Nat, ι'.c[k]? ≠ some (some p) := R.gd p (by rw [hg]; exact List.mem_cons_self ..)
    rw [get_snoc] at q1 q2
    split at q1
    · split at q2
      · omega
      · cases q1; exact absurd q2 (no m)
    · split at q2
      · cases q2; exact absurd q1 (no n)
      · exact R.inj n m a q1 q2
theorem nc_rh (R : RH K ι' h' H') (hg : ι'.g = p :: g) (hn : p ∉ g) (hp : H' p = some (.lst vs)) (r : RepL K ι' H' xs vs) (u : D.undAll h'.length xs = true) : RH K (ι'.cellAt p g) (h' ++ [.live (.lst xs)]) H' := nc_rhO R hg hn ⟨vs, hp, r⟩ u
/-- the whole step: what was reserved is a cell -/
theorem nc_ext (R0 : RH K ι h H) (R : RH K ι' h' H') (hg : ι'.g = p :: ι.g) (x : Ext ι h H ⟨ι'.c, ι.g⟩ h' H') (hp : H p = none) (o : O) : Ext ι h H (ι'.cellAt p ι.g) (h' ++ [.live o]) H' where
  pre := fun n y q => by
    have lift : ∀ z : Option Addr, ι'.c[n]? = some z → (ι'.c ++ [some p])[n]? = some z := fun z q => by
      rw [get_snoc, if_neg (fun z => by rw [z, List.getElem?_eq_none (Nat.le_refl _)] at q; cases q)]
      exact q
    rcases x.pre n y q with e | ⟨e, k⟩
    · exact .inl (lift _ e)
    · refine .inr ⟨lift _ e, fun a ea => ⟨(k a ea).1, (k a ea).2.1, fun z => ?_⟩⟩
      rcases z with ⟨m, z⟩ | z
      · change (ι'.c ++ [some p])[m]? = _ at z
        rw [get_snoc] at z
        split at z
        · cases z
          obtain ⟨u, s⟩ := R0.own_some (.inl ⟨n, by rw [q, ea]⟩)
          rw [hp] at s; cases s
        · exact (k a ea).2.2 (.inl ⟨m, z⟩)
      · exact (k a ea).2.2 (.inr z)
  frame := x.frame
  own := fun a z => by
    rcases z with ⟨n, z⟩ | z
    · change (ι'.c ++ [some p])[n]? = _ at z
      rw [get_snoc] at z
      split at z
      · cases z; exact .inr hp
      · exact x.own a (.inl ⟨n, z⟩)
    · exact x.own a (.inr z)
  mt := fun a z => by
    obtain ⟨n, z, o', w⟩ := z
    change (ι'.c ++ [some p])[n]? = _ at z
    rw [get_snoc] at z
    split at z
    · cases z; exact .inr hp
    · rename_i hn
      rw [get_snoc, if_neg (by rw [← R.len]; exact hn)] at w
      exact x.mt a ⟨n, z, o', w⟩
  lk := fun n u q => by
    have q' := x.lk n u q
    rw [get_snoc, if_neg (fun z => by rw [z, List.getElem?_eq_none (Nat.le_refl _)] at q'; cases q')]
    exact q'
  g := rfl
theorem nc_rep (R : RH K ι' h' H') : Rep K (ι'.cellAt p g) H' (.ref h'.length) (.ref p) :=
  .ref (by show (ι'.c ++ [some p])[h'.length]? = _; rw [get_snoc, if_pos R.len.symm])
theorem res_no (R : RH K ι h H) (hp : H p = none) : p ∉ ι.g := fun m => by
  obtain ⟨u, q, _⟩ := R.gs p m
  rw [hp] at q; cases q
end
def nLst (a : DenA) : DenA := fun e h => (a e h).bind fun xs h => if xs.length ≤ sizeLine then .ok xs h else .bad
def sNew (i : Nat) (d : DenA) : DenS := fun e h => (d e h).to fun xs h => if D.undAll h.length xs = true then if i < e.length then .nx (e.set i (some (.ref h.length))) (h ++ [.live (.lst xs)]) else .bad else .bad
def sRetNew (d : DenA) : DenS := fun e h => (d e h).to fun xs h => if D.undAll h.length xs = true then .rt (.ref h.length) (h ++ [.live (.lst xs)]) else .bad
section
variable {X : Cx} {a b c : Expr} {pos : Pos} {da : DenA}
theorem n_lst {es : List Expr} (ha : PA X es (rdA X.K da)) : PE X (.List es pos) (rdN X.K (nLst da)) := by
  refine (pe_lst ha).wkn fun σ H Q ⟨ι, e, h, R, k⟩ => ⟨ι, e, h, R, ?_⟩
  unfold nLst at k
  cases q : da e h with
  | err _ _ => rw [q] at k; exact k
  | bad => rw [q] at k; exact k
  | ok xs h1 =>
  rw [q] at k
  intro ι1 H1 vs x1 R1 r1
  have k : match (if xs.length ≤ sizeLine then Res.ok xs h1 else .bad) with
    | .ok xs h' => ∀ ι' H' p vs, ι'.g = p :: ι.g → Ext ι h H ⟨ι'.c, ι.g⟩ h' H' → RH X.K ι' h' H' → RE X.K ι' e σ H' → H' p = some (.lst vs) → RepL X.K ι' H' xs vs → H p = none → Q (.ref p) H'
    | _ => False := k
  split at k
  · rename_i xs' h1' eq
    split at eq
    · rename_i hz
      cases eq
      refine ⟨by rw [← r1.length]; exact hz, fun p hp => ?_⟩
      have hP : H p = none := x1.none_of R1.rh hp
      refine k (ι1.res p) _ p vs (by show p :: ι1.g = _; rw [x1.g]) ?_ (res_rh R1.rh hp) (R1.re.pr (res_pres (h := h1) hp)) upd_same (r1.pr (res_pres (h := h1) hp)) hP
      have x2 : Ext ι h H ι1 h1 (upd H1 p (.lst vs)) := x1.trans (.new hp)
      have e1 : (⟨(ι1.res p).c, ι.g⟩ : Io) = ι1 := by
        cases ι1
        have := x1.g
        simp only at this
        subst this
        rfl
      rw [e1]
      exact x2
    · cases eq
  · exact k.elim
/-- a list made behind what was read -/
theorem new_end {ι ι1 : Io} {h h1 : Hs} {H H1 : Hp} {e : En} {σ : St} {xs : List D} {vs : List V} {Q : VK} {p : Addr} (R : Rl X.K ι e h σ H) (x1 : Ext ι h H ι1 h1 H1) (R1 : Rl X.K ι1 e h1 σ H1) (r1 : RepL X.K ι1 H1 xs vs) (hp : H1 p = none)
    (k : ∀ ι' H' p vs, ι'.g = p :: ι.g → Ext ι h H ⟨ι'.c, ι.g⟩ h1 H' → RH X.K ι' h1 H' → RE X.K ι' e σ H' → H' p = some (.lst vs) → RepL X.K ι' H' xs vs → H p = none → Q (.ref p) H') : Q (.ref p) (upd H1 p (.lst vs)) := by
  have hP : H p = none := x1.none_of R1.rh hp
  refine k (ι1.res p) _ p vs (by show p :: ι1.g = _; rw [x1.g]) ?_ (res_rh R1.rh hp) (R1.re.pr (res_pres (h := h1) hp)) upd_same (r1.pr (res_pres (h := h1) hp)) hP
  have x2 : Ext ι h H ι1 h1 (upd H1 p (.lst vs)) := x1.trans (.new hp)
  have e1 : (⟨(ι1.res p).c, ι.g⟩ : Io) = ι1 := by
    cases ι1
    have := x1.g
    simp only at this
    subst this
    rfl
  rw [e1]
  exact x2
/-- [..] * k -/
def nRep (da db : Den) : DenA := fun e h => (da e h).bind fun x h => (db e h).bind fun y h => match x with
  | .lst xs => match y with
    | .int k => if repOk xs.length k = true then .ok (List.replicate k.toNat xs).flatten h else .bad
    | _ => .bad
  | _ => .bad
theorem n_rep {da db : Den} (ha : PE X a (rdE X.K da)) (hb : PE X b (rdE X.K db)) : PE X (.BinOp a .Mult b pos) (rdN X.K (nRep da db)) := by
  refine (pe_op op_rep ha hb).wkn fun σ H Q ⟨ι, e, h, R, k⟩ => ⟨ι, e, h, R, ?_⟩
  unfold nRep at k
  cases q : da e h with
  | err _ _ => rw [q] at k; exact k
  | bad => rw [q] at k; exact k
  | ok x h1 =>
  rw [q] at k
  intro ι1 H1 v x1 R1 r1
  refine ⟨ι1, e, h1, R1, ?_⟩
  change (match ((db e h1).bind fun y h => match x with
    | .lst xs => match y with
      | .int k => if repOk xs.length k = true then Res.ok (List.replicate k.toNat xs).flatten h else .bad
      | _ => .bad
    | _ => .bad) with
    | .ok xs h' => ∀ ι' H' p vs, ι'.g = p :: ι.g → Ext ι h H ⟨ι'.c, ι.g⟩ h' H' → RH X.K ι' h' H' → RE X.K ι' e σ H' → H' p = some (.lst vs) → RepL X.K ι' H' xs vs → H p = none → Q (.ref p) H'
    | _ => False) at k
  cases q2 : db e h1 with
  | err _ _ => rw [q2] at k; exact k
  | bad => rw [q2] at k; exact k
  | ok y h2 =>
  rw [q2] at k
  intro ι2 H2 w x2 R2 r2
  replace r1 := r1.ext x2
  cases x <;> try exact k.elim
  rename_i xs
  cases y <;> try exact k.elim
  rename_i n
  cases r2
  cases r1 with
  | lst f t =>
    by_cases hz : repOk xs.length n = true
    · change (match (if repOk xs.length n = true then Res.ok (List.replicate n.toNat xs).flatten h2 else .bad) with
        | .ok xs h' => ∀ ι' H' p vs, ι'.g = p :: ι.g → Ext ι h H ⟨ι'.c, ι.g⟩ h' H' → RH X.K ι' h' H' → RE X.K ι' e σ H' → H' p = some (.lst vs) → RepL X.K ι' H' xs vs → H p = none → Q (.ref p) H'
        | _ => False) at k
      rw [if_pos hz] at k
      simp only [repOk, Bool.and_eq_true, decide_eq_true_eq] at hz
      exact ⟨_, _, _, rfl, rfl, f.1, by omega, by omega, by rw [← t.length]; exact hz.2, fun p hp => new_end R (x1.trans x2) R2 (flat_rep t _) hp k⟩
    · change (match (if repOk xs.length n = true then Res.ok (List.replicate n.toNat xs).flatten h2 else .bad) with
        | .ok xs h' => ∀ ι' H' p vs, ι'.g = p :: ι.g → Ext ι h H ⟨ι'.c, ι.g⟩ h' H' → RH X.K ι' h' H' → RE X.K ι' e σ H' → H' p = some (.lst vs) → RepL X.K ι' H' xs vs → H p = none → Q (.ref p) H'
        | _ => False) at k
      rw [if_neg hz] at k
      exact k.elim
/-- xs + ys, a new list -/
def nAdd (da db : Den) : DenA := fun e h => (da e h).bind fun x h => (db e h).bind fun y h => match x with
  | .lst xs => match y with
    | .lst ys => if xs.length + ys.length ≤ sizeLine then .ok (xs ++ ys) h else .bad
    | _ => .bad
  | _ => .bad
theorem n_add {da db : Den} (ha : PE X a (rdE X.K da)) (hb : PE X b (rdE X.K db)) : PE X (.BinOp a .Add b pos) (rdN X.K (nAdd da db)) := by
  refine (pe_op op_cat ha hb).wkn fun σ H Q ⟨ι, e, h, R, k⟩ => ⟨ι, e, h, R, ?_⟩
  unfold nAdd at k
  cases q : da e h with
  | err _ _ => rw [q] at k; exact k
  | bad => rw [q] at k; exact k
  | ok x h1 =>
  rw [q] at k
  intro ι1 H1 v x1 R1 r1
  refine ⟨ι1, e, h1, R1, ?_⟩
  change (match ((db e h1).bind fun y h => match x with
    | .lst xs => match y with
      | .lst ys => if xs.length + ys.length ≤ sizeLine then Res.ok (xs ++ ys) h else .bad
      | _ => .bad
    | _ => .bad) with
    | .ok xs h' => ∀ ι' H' p vs, ι'.g = p :: ι.g → Ext ι h H ⟨ι'.c, ι.g⟩ h' H' → RH X.K ι' h' H' → RE X.K ι' e σ H' → H' p = some (.lst vs) → RepL X.K ι' H' xs vs → H p = none → Q (.ref p) H'
    | _ => False) at k
  cases q2 : db e h1 with
  | err _ _ => rw [q2] at k; exact k
  | bad => rw [q2] at k; exact k
  | ok y h2 =>
  rw [q2] at k
  intro ι2 H2 w x2 R2 r2
  replace r1 := r1.ext x2
  cases x <;> try exact k.elim
  rename_i xs
  cases y <;> try exact k.elim
  rename_i ys
  cases r1 with
  | lst f t =>
  cases r2 with
  | lst f2 t2 =>
    by_cases hz : xs.length + ys.length ≤ sizeLine
    · change (match (if xs.length + ys.length ≤ sizeLine then Res.ok (xs ++ ys) h2 else .bad) with
        | .ok xs h' => ∀ ι' H' p vs, ι'.g = p :: ι.g → Ext ι h H ⟨ι'.c, ι.g⟩ h' H' → RH X.K ι' h' H' → RE X.K ι' e σ H' → H' p = some (.lst vs) → RepL X.K ι' H' xs vs → H p = none → Q (.ref p) H'
        | _ => False) at k
      rw [if_pos hz] at k
      exact ⟨_, _, _, _, rfl, rfl, f.1, f2.1, by rw [← t.length, ← t2.length]; exact hz, fun p hp => new_end R (x1.trans x2) R2 (t.append t2) hp k⟩
    · change (match (if xs.length + ys.length ≤ sizeLine then Res.ok (xs ++ ys) h2 else .bad) with
        | .ok xs h' => ∀ ι' H' p vs, ι'.g = p :: ι.g → Ext ι h H ⟨ι'.c, ι.g⟩ h' H' → RH X.K ι' h' H' → RE X.K ι' e σ H' → H' p = some (.lst vs) → RepL X.K ι' H' xs vs → H p = none → Q (.ref p) H'
        | _ => False) at k
      rw [if_neg hz] at k
      exact k.elim
theorem p_new {i : Nat} {x : Str} {pos' : Pos} (hN : X.N.Nodup) (hi : X.N[i]? = some x) (hx : Loc X.env.scope x) (ha : PE X a (rdN X.K da)) (hc : nocomp a = true) (hf : X.fn x = true ∨ X.env.scope.names.lookup x = some .local) : PS X (.Assign [.Name x pos'] a pos) (rdS X.K (sNew i da)) := by
  refine (ps_set hN hi hx ha (noswap hc) hf).wkn fun Z σ H ⟨ι, e, h, R, k⟩ => ⟨ι, e, h, R, ?_⟩
  unfold sNew at k
  cases q : da e h with
  | err _ _ => rw [q] at k; exact k
  | bad => rw [q] at k; exact k
  | ok xs h1 =>
  rw [q] at k
  intro ι' H' p vs hg x R' E' hp r hP
  have k : KS X.K ι h H (if D.undAll h1.length xs = true then if i < e.length then .nx (e.set i (some (.ref h1.length))) (h1 ++ [.live (.lst xs)]) else .bad else .bad) Z := k
  split at k
  · rename_i hu
    split at k
    · exact k _ _ H' (nc_ext R.rh R' hg x hP _) ⟨nc_rh R' hg (res_no R.rh hP) hp r hu, (E'.pr (nc_pres R' hg (.lst xs))).set (nc_rep R') i⟩
    · exact k.elim
  · exact k.elim
theorem p_retNew (ha : PE X a (rdN X.K da)) : PS X (.Return (some a) pos) (rdS X.K (sRetNew da)) := by
  refine (ps_ret ha).wkn fun Z σ H ⟨ι, e, h, R, k⟩ => ⟨ι, e, h, R, ?_⟩
  unfold sRetNew at k
  cases q : da e h with
  | err _ _ => rw [q] at k; exact k
  | bad => rw [q] at k; exact k
  | ok xs h1 =>
  rw [q] at k
  intro ι' H' p vs hg x R' E' hp r hP
  have k : KS X.K ι h H (if D.undAll h1.length xs = true then .rt (.ref h1.length) (h1 ++ [.live (.lst xs)]) else .bad) Z := k
  split at k
  · rename_i hu
    exact k _ H' _ (nc_ext R.rh R' hg x hP _) (nc_rh R' hg (res_no R.rh hP) hp r hu) (nc_rep R')
  · exact k.elim
/-! ### o.append(e) -/
/-- no call of a name without arguments (super()) -/
def nosuper : Expr → Bool
  | .Call (.Name ..) [] [] _ => false
  | _ => true
theorem abase {o : Expr} {f : Str} {env : Env} {w : Sem Value} (h : nosuper o = true) : attributeBase o f env w = w := by
  unfold attributeBase
  split
  · cases h
  · rfl
/-- what a cell holds, told whole -/
def O.d : O → D
  | .lst xs => .lst xs
  | .ins c ks xs => .ins c ks xs
  | .dct ks xs => .dct ks xs
  | .tbl _ _ => .non
def O.isT : O → Bool
  | .tbl _ _ => true
  | _ => false
theorem freeze {K : PySem.W.Frag} {ι : Io} {h : Hs} {H : Hp} {n : Nat} {o : O} {a : Addr} (R : RH K ι h H) (hn : h[n]? = some (.live o)) (ha : ι.c[n]? = some (some a)) (nt : o.isT = false) : Ext ι h H ⟨ι.c.set n none, ι.g⟩ (h.set n .dead) H ∧ RH K ⟨ι.c.set n none, ι.g⟩ (h.set n .dead) H ∧ Rep K ⟨ι.c.set n none, ι.g⟩ H o.d (.ref a) := by
  have hl : n < h.length := (List.getElem?_eq_some_iff.mp hn).1
  have hc : n < ι.c.length := (List.getElem?_eq_some_iff.mp ha).1
  have get : ∀ {k : Nat} {b : Addr}, (ι.c.set n none)[k]? = some (some b) → n ≠ k ∧ ι.c[k]? = some (some b) := fun {k b} q => by
    by_cases z : n = k
    · subst z; rw [List.getElem?_set_self hc] at q; cases q
    · rw [List.getElem?_set_ne z] at q; exact ⟨z, q⟩
  have no : ¬ Own ⟨ι.c.set n none, ι.g⟩ a := fun q => by
    rcases q with ⟨k, q⟩ | q
    · exact (get q).1 (R.inj n k a ha (get q).2)
    · exact R.gd a q n ha
  have x : Ext ι h H ⟨ι.c.set n none, ι.g⟩ (h.set n .dead) H := by
    refine ⟨fun k y q => ?_, fun _ _ q _ => q, fun b q => ?_, fun b q => ?_, fun k u q => ?_, rfl⟩
    · by_cases z : n = k
      · subst z
        refine .inr ⟨List.getElem?_set_self hc, fun b eb => ?_⟩
        rw [ha] at q; cases q; cases eb
        exact ⟨.inl ⟨n, ha, o, hn⟩, R.own_some (.inl ⟨n, ha⟩), no⟩
      · exact .inl ((List.getElem?_set_ne z).trans q)
    · rcases q with ⟨k, q⟩ | q
      · exact .inl (.inl ⟨k, (get q).2⟩)
      · exact .inl (.inr q)
    · obtain ⟨k, q, u, w⟩ := q
      obtain ⟨z, q⟩ := get q
      rw [List.getElem?_set_ne z] at w
      exact .inl ⟨k, q, u, w⟩
    · have z : n ≠ k := fun z => by subst z; rw [hn] at q; cases q
      rw [List.getElem?_set_ne z]; exact q
  refine ⟨x, ⟨?_, R.gs, fun b m k q => R.gd b m k (get q).2, fun k q => ?_, fun k u q => ?_, fun k m b q1 q2 => R.inj k m b (get q1).2 (get q2).2⟩, ?_⟩
  · show (ι.c.set n none).length = _
    rw [List.length_set, List.length_set]; exact R.len
  · show (ι.c.set n none)[k]? = _
    by_cases z : n = k
    · subst z; exact List.getElem?_set_self hc
    · rw [List.getElem?_set_ne z] at q ⊢; exact R.dead k q
  · have z : n ≠ k := fun z => by
      subst z
      rw [List.getElem?_set_self hl] at q
      rcases q with q | q <;> cases q
    rw [List.getElem?_set_ne z] at q
    obtain ⟨b, qb, w, u'⟩ := R.cell k u q
    exact ⟨b, (List.getElem?_set_ne z).trans qb, w.pr x.pres rfl, u'⟩
  · obtain ⟨b, qb, w, _⟩ := R.cell n o (.inl hn)
    rw [ha] at qb; cases qb
    cases o with
    | lst ds => obtain ⟨vs, q, t⟩ := w; exact .lst ⟨q, no⟩ (t.ext x)
    | ins c ks ds => obtain ⟨C, dx, fs, q, e1, e2, t⟩ := w; exact .ins ⟨q, no⟩ e1 e2 (t.ext x)
    | dct ks ds => obtain ⟨kv, vv, q, t1, t2⟩ := w; exact .dct ⟨q, no⟩ (t1.ext x) (t2.ext x)
    | tbl _ _ => cases nt
/-- a cell made later is let go and kept whole in an earlier one -/
def appF (m : Nat) (xs : List D) (y : D) (h : Hs) : Option Hs := match y with
  | .ref n => match h[n]? with
    | some (.live o) => if o.und m = true ∧ m < n ∧ xs.length < sizeLine ∧ o.isT = false then some ((h.set n .dead).set m (.live (.lst (xs ++ [o.d])))) else none
    | _ => none
  | _ => none
def appO (x y : D) (h : Hs) : Option Hs := match liveAt h x with
  | none => none
  | some (m, xs) => if y.und m = true then if xs.length < sizeLine then some (h.set m (.live (.lst (xs ++ [y])))) else none else appF m xs y h
def dApp (o a : Den) : Den := fun e h => (o e h).bind fun x h => orBad (liveAt h x) fun _ => (a e h).bind fun y h => orBad (appO x y h) fun h => .ok .non h
theorem s_app {o : Expr} {dO db : Den} {apos : Pos} (ho : PE X o (rdE X.K dO)) (hb : PE X b (rdE X.K db)) (pb : plain b = true) (no : nosuper o = true) (hl : (apos.endLine == pos.line) = true) : PE X (.Call (.Attribute o "append" apos) [b] [] pos) (rdE X.K (dApp dO db)) := by
  refine (pe_bm PySem.F.plainAttrs_list PySem.F.slot_list_append PySem.F.type_list_append mt_append ho (pa_cons hb pa_nil (star_of pb)) (abase no) (by rw [star_of pb]; rfl) hl (star_of pb) rfl).wkn fun σ H Q ⟨ι, e, h, R, k⟩ => ⟨ι, e, h, R, (Kg.bind k).imp fun v H1 ⟨x, h1, ι1, n1⟩ => ?_⟩
  have k1 := n1.k
  cases q1 : liveAt h1 x with
  | none => rw [q1] at k1; exact k1.elim
  | some mx =>
  obtain ⟨m, xs⟩ := mx
  rw [q1] at k1
  obtain ⟨a, vs, rfl, hm, qa, w, t, b⟩ := liveAt_rep n1.R.rh q1 n1.rr
  refine ⟨.inl ⟨rfl, vs, .of w⟩, ι1, e, h1, n1.R, (Kg.bind (RR := Rep X.K) (show Kd X.K ι1 h1 H1 e σ ((db e h1).bind fun y h => orBad (appO x y h) fun h => .ok .non h) Q from k1)).imp fun u H2 ⟨y, h2, ι2, n2⟩ => ?_⟩
  have k2 := n2.k
  cases q2 : appO x y h2 with
  | none => rw [q2] at k2; exact k2.elim
  | some h3 =>
  rw [q2] at k2
  unfold appO at q2
  cases q3 : liveAt h2 x with
  | none => rw [q3] at q2; cases q2
  | some mx =>
  obtain ⟨m', xs'⟩ := mx
  rw [q3] at q2
  dsimp only at q2
  obtain ⟨a', vs', ea, hm', qa', w', t', b'⟩ := liveAt_rep n2.R.rh q3 (n1.rr.ext n2.x)
  cases ea
  split at q2
  · rename_i hu
    split at q2
    · rename_i hz
      cases q2
      refine ⟨a, vs', u, rfl, rfl, w', by rw [← t'.length]; exact hz, ?_⟩
      exact k2 ι2 _ _ (cell_ext n2.R.rh hm' qa') (cell_rl n2.R hm' qa' (t'.append (.cons n2.rr .nil)) (undAll_append b' (by unfold D.undAll; rw [hu]; rfl))) .non
    · cases q2
  · unfold appF at q2
    cases y with
    | ref n =>
      dsimp only at q2
      cases q4 : h2[n]? with
      | none => rw [q4] at q2; cases q2
      | some c =>
        cases c with
        | dead => rw [q4] at q2; cases q2
        | lock o => rw [q4] at q2; cases q2
        | live o =>
          rw [q4] at q2
          dsimp only at q2
          split at q2
          · rename_i hz
            obtain ⟨hu, hmn, hz, ht⟩ := hz
            cases q2
            obtain ⟨c, qc, _⟩ := n2.R.rh.cell n o (.inl q4)
            have eu : u = .ref c := by
              have rr := n2.rr
              cases rr with
              | ref e => rw [qc] at e; cases e; rfl
              | dead e => rw [qc] at e; cases e
            subst eu
            obtain ⟨xz, Rz, rz⟩ := freeze n2.R.rh q4 qc ht
            have R4 : Rl X.K ⟨ι2.c.set n none, ι2.g⟩ e (h2.set n .dead) σ H2 := ⟨Rz, n2.R.re.ext xz⟩
            have nm : n ≠ m' := by omega
            have hm4 : (h2.set n .dead)[m']? = some (.live (.lst xs')) := (List.getElem?_set_ne nm).trans hm'
            have qa4 : (⟨ι2.c.set n none, ι2.g⟩ : Io).c[m']? = some (some a) := (List.getElem?_set_ne nm).trans qa'
            refine ⟨a, vs', .ref c, rfl, rfl, w', by rw [← t'.length]; exact hz, ?_⟩
            exact k2 _ _ _ (xz.trans (cell_ext Rz hm4 qa4)) (cell_rl R4 hm4 qa4 ((t'.ext xz).append (.cons rz .nil)) (undAll_append b' (by
              cases o with
              | lst ds => show (D.undAll m' ds && true) = true; rw [Bool.and_true]; exact hu
              | ins c ks ds => show (D.undAll m' ds && true) = true; rw [Bool.and_true]; exact hu
              | dct ks ds => show (D.undAll m' ds && true) = true; rw [Bool.and_true]; exact hu
              | tbl _ _ => cases ht))) .non
          · cases q2
    | _ => cases q2
end
end Ev
/-! EvK: what a def hands back. -/
namespace Ev
open PySem PySem.Spec L2
variable [TheW]

section
variable {K : PySem.W.Frag} {ι ι' ιT : Io} {h h' : Hs} {H H' : Hp}
mutual
theorem Rep.und : ∀ {d : D} {v : V}, Rep K ι H d v → d.und ι.c.length = true
  | _, _, .non => rfl
  | _, _, .bl _ => rfl
  | _, _, .int _ => rfl
  | _, _, .str _ => rfl
  | _, _, .tup _ r => RepL.und r
  | _, _, .lst _ r => RepL.und r
  | _, _, .scr _ r => RepL.und r
  | _, _, .ins _ _ _ r => RepL.und r
  | _, _, .dct _ _ r => RepL.und r
  | _, _, .exc _ _ _ r => RepL.und r
  | _, _, .cls _ => rfl
  | _, _, .fnv _ => rfl
  | _, _, .ref e => Nat.blt_eq.mpr (List.getElem?_eq_some_iff.mp e).1
  | _, _, .dead e => Nat.blt_eq.mpr (List.getElem?_eq_some_iff.mp e).1
theorem RepL.und : ∀ {ds : List D} {vs : List V}, RepL K ι H ds vs → D.undAll ι.c.length ds = true
  | _, _, .nil => rfl
  | _, _, .cons r t => by unfold D.undAll; rw [Rep.und r, RepL.und t]; rfl
end
/-- cells are put in the place of their numbers -/
structure Cut (ι' : Io) (b n : Nat) (ιT : Io) : Prop where
  low : ∀ m : Nat, m < b → ιT.c[m]? = ι'.c[m]?
  fz : ∀ a, ¬ Own ι' a → ¬ Own ιT a
  up : ∀ (m : Nat) a, b ≤ m → m < n → ι'.c[m]? = some (some a) → ¬ Own ιT a
theorem FX.cut (fz : ∀ a, ¬ Own ι' a → ¬ Own ιT a) {a C : Addr} {fs : List (Str × V)} (g : FX ι' H' a C fs) : FX ιT H' a C fs := by
  obtain ⟨oe, e1, e2, e3, e4, n⟩ := g
  refine ⟨oe, e1, e2, e3, ?_, fz _ n⟩
  rcases e4 with ⟨dx, q1, q2, q3⟩ | q
  · exact .inl ⟨dx, q1, q2, fz _ q3⟩
  · exact .inr q
mutual
theorem kd_cut (fz : ∀ a, ¬ Own ι' a → ¬ Own ιT a) : ∀ (k : NestedKey) {v : V}, Rep K ι' H' (kd k) v → Rep K ιT H' (kd k) v
  | .none, _, .non => .non
  | .num i, _, .int _ => .int i
  | .text s, _, .str _ => .str s
  | .tup ks, _, .tup g t => .tup (by
      rcases g with ⟨g, no⟩ | g
      · exact .inl ⟨g, fz _ no⟩
      · exact .inr g) (kds_cut fz ks t)
theorem kds_cut (fz : ∀ a, ¬ Own ι' a → ¬ Own ιT a) : ∀ (ks : List NestedKey) {vs : List V}, RepL K ι' H' (kds ks) vs → RepL K ιT H' (kds ks) vs
  | [], _, .nil => .nil
  | k :: ks, _, .cons r t => .cons (kd_cut fz k r) (kds_cut fz ks t)
end
mutual
theorem walk_rep {b n : Nat} {f : Nat → Option D} (C : Cut ι' b n ιT) (hf : ∀ m v x, m < n → Rep K ι' H' (.ref m) v → f m = some x → Rep K ιT H' x v) : ∀ (d : D) (v : V) (x : D), d.und n = true → Rep K ι' H' d v → D.walk f d = some x → Rep K ιT H' x v
  | .non, _, _, _, .non, q => by cases q; exact .non
  | .bl b, _, _, _, .bl _, q => by cases q; exact .bl b
  | .int b, _, _, _, .int _, q => by cases q; exact .int b
  | .str b, _, _, _, .str _, q => by cases q; exact .str b
  | .ref m, v, x, u, r, q => hf m v x (Nat.blt_eq.mp u) r q
  | .tup ds, _, x, u, .tup g t, q => by
    unfold D.walk at q
    cases q2 : D.walkAll f ds with
    | none => rw [q2] at q; cases q
    | some xs =>
      rw [q2] at q; cases q
      refine .tup ?_ (walkAll_rep C hf ds _ xs u t q2)
      rcases g with ⟨g, no⟩ | g
      · exact .inl ⟨g, C.fz _ no⟩
      · exact .inr g
  | .lst ds, _, x, u, .lst g t, q => by
    unfold D.walk at q
    cases q2 : D.walkAll f ds with
    | none => rw [q2] at q; cases q
    | some xs => rw [q2] at q; cases q; exact .lst ⟨g.1, C.fz _ g.2⟩ (walkAll_rep C hf ds _ xs u t q2)
  | .cls c, _, x, u, .cls n, q => by cases q; exact .cls n
  | .exc c ks ds, _, x, u, .exc g n k t, q => by
    unfold D.walk at q
    cases q2 : D.walkAll f ds with
    | none => rw [q2] at q; cases q
    | some xs => rw [q2] at q; cases q; exact .exc (FX.cut C.fz g) n k (walkAll_rep C hf ds _ xs u t q2)
  | .fnv c, _, x, u, .fnv _, q => by cases q; exact .fnv c
  | .ins c ks ds, _, x, u, .ins g n k t, q => by
    unfold D.walk at q
    cases q2 : D.walkAll f ds with
    | none => rw [q2] at q; cases q
    | some xs => rw [q2] at q; cases q; exact .ins ⟨g.1, C.fz _ g.2⟩ n k (walkAll_rep C hf ds _ xs u t q2)
  | .dct ks ds, _, x, u, .dct g k t, q => by
    unfold D.walk at q
    cases q2 : D.walkAll f ds with
    | none => rw [q2] at q; cases q
    | some xs => rw [q2] at q; cases q; exact .dct ⟨g.1, C.fz _ g.2⟩ (kds_cut C.fz ks k) (walkAll_rep C hf ds _ xs u t q2)
  | .scr ds, _, x, u, .scr g t, q => by
    unfold D.walk at q
    cases q2 : D.walkAll f ds with
    | none => rw [q2] at q; cases q
    | some xs =>
      rw [q2] at q; cases q
      refine .scr ?_ (walkAll_rep C hf ds _ xs u t q2)
      rcases g with ⟨g, no⟩ | g
      · exact .inl ⟨g, C.fz _ no⟩
      · exact .inr g
theorem walkAll_rep {b n : Nat} {f : Nat → Option D} (C : Cut ι' b n ιT) (hf : ∀ m v x, m < n → Rep K ι' H' (.ref m) v → f m = some x → Rep K ιT H' x v) : ∀ (ds : List D) (vs : List V) (xs : List D), D.undAll n ds = true → RepL K ι' H' ds vs → D.walkAll f ds = some xs → RepL K ιT H' xs vs
  | [], _, _, _, .nil, q => by cases q; exact .nil
  | d :: ds, _, xs, u, .cons r t, q => by
    unfold D.undAll at u
    rw [Bool.and_eq_true] at u
    unfold D.walkAll at q
    cases q1 : D.walk f d with
    | none => rw [q1] at q; cases q
    | some x =>
      cases q2 : D.walkAll f ds with
      | none => rw [q1, q2] at q; cases q
      | some ys => rw [q1, q2] at q; cases q; exact .cons (walk_rep C hf d _ x u.1 r q1) (walkAll_rep C hf ds _ ys u.2 t q2)
end
theorem mapO_repL {f : D → Option D} {n : Nat} : ∀ {ds : List D} {vs : List V} {es : List D}, (∀ d v x, d.und n = true → Rep K ι' H' d v → f d = some x → Rep K ιT H' x v) → D.undAll n ds = true → RepL K ι' H' ds vs → mapO f ds = some es → RepL K ιT H' es vs
  | _, _, _, _, _, .nil, q => by cases q; exact .nil
  | d :: ds, v :: vs, es, hf, u, .cons r t, q => by
    unfold D.undAll at u
    rw [Bool.and_eq_true] at u
    unfold mapO at q
    cases q1 : f d with
    | none => rw [q1] at q; cases q
    | some x =>
      rw [q1] at q
      dsimp only at q
      cases q2 : mapO f ds with
      | none => rw [q2] at q; cases q
      | some xs => rw [q2] at q; cases q; exact .cons (hf d v x u.1 r q1) (mapO_repL hf u.2 t q2)
theorem lstAt_und (R : RH K ι' h' H') {m : Nat} {xs : List D} (q : lstAt h' m = some xs) : D.undAll m xs = true := by
  unfold lstAt at q
  split at q
  · rename_i z; cases q; obtain ⟨_, _, _, u⟩ := R.cell m _ (.inl z); exact u
  · rename_i z; cases q; obtain ⟨_, _, _, u⟩ := R.cell m _ (.inr z); exact u
  · cases q
mutual
theorem und_mono {n m : Nat} (hl : n ≤ m) : ∀ (d : D), d.und n = true → d.und m = true
  | .non, _ => rfl
  | .bl _, _ => rfl
  | .int _, _ => rfl
  | .str _, _ => rfl
  | .tup xs, u => undAll_mono hl xs u
  | .lst xs, u => undAll_mono hl xs u
  | .scr xs, u => undAll_mono hl xs u
  | .ins _ _ xs, u => undAll_mono hl xs u
  | .dct _ xs, u => undAll_mono hl xs u
  | .cls _, _ => rfl
  | .fnv _, _ => rfl
  | .exc _ _ xs, u => undAll_mono hl xs u
  | .ref k, u => Nat.blt_eq.mpr (Nat.lt_of_lt_of_le (Nat.blt_eq.mp u) hl)
theorem undAll_mono {n m : Nat} (hl : n ≤ m) : ∀ (ds : List D), D.undAll n ds = true → D.undAll m ds = true
  | [], _ => rfl
  | d :: ds, u => by
    unfold D.undAll at u ⊢
    rw [Bool.and_eq_true] at u
    rw [und_mono hl d u.1, undAll_mono hl ds u.2]; rfl
end
theorem frz_rep {b n : Nat} (R : RH K ι' h' H') (C : Cut ι' b n ιT) : ∀ (k : Nat) (d : D) (v : V) (x : D), d.und n = true → Rep K ι' H' d v → frz b h' k d = some x → Rep K ιT H' x v := by
  have low : ∀ m v, m < b → Rep K ι' H' (.ref m) v → Rep K ιT H' (.ref m) v := fun m v hm r => by
    cases r with
    | ref e => exact .ref (by rw [C.low m hm]; exact e)
    | dead e => exact .dead (by rw [C.low m hm]; exact e)
  intro k
  induction k with
  | zero =>
    intro d v x u r q
    refine walk_rep C (fun m v x hm r q => ?_) d v x u r q
    split at q
    · cases q; exact low m v (by assumption) r
    · cases q
  | succ k ih =>
    intro d v x u r q
    refine walk_rep C (fun m v x hm r q => ?_) d v x u r q
    split at q
    · cases q; exact low m v (by assumption) r
    · rename_i hb
      cases q1 : cellAt h' m with
      | none => rw [q1] at q; cases q
      | some o =>
        rw [q1] at q
        obtain ⟨a, rfl, qa, w, un⟩ := cellAt_rep R q1 r
        cases o with
        | lst ds =>
          obtain ⟨vs, ea, ra⟩ := w
          dsimp only at q
          cases q2 : mapO (frz b h' k) ds with
          | none => rw [q2] at q; cases q
          | some es =>
            rw [q2] at q
            cases q
            exact .lst ⟨ea, C.up m a (by omega) hm qa⟩ (mapO_repL (n := n) (fun d v x u r q => ih d v x u r q) (undAll_mono (Nat.le_of_lt hm) _ un) ra q2)
        | ins c ks ds =>
          obtain ⟨C1, dx, fs, ea, nm, ek, ra⟩ := w
          dsimp only at q
          cases q2 : mapO (frz b h' k) ds with
          | none => rw [q2] at q; cases q
          | some es =>
            rw [q2] at q
            cases q
            exact .ins ⟨ea, C.up m a (by omega) hm qa⟩ nm ek (mapO_repL (n := n) (fun d v x u r q => ih d v x u r q) (undAll_mono (Nat.le_of_lt hm) _ un) ra q2)
        | dct ks ds =>
          obtain ⟨kv, vv, fd, rk, ra⟩ := w
          dsimp only at q
          cases q2 : mapO (frz b h' k) ds with
          | none => rw [q2] at q; cases q
          | some es =>
            rw [q2] at q
            cases q
            exact .dct ⟨fd, C.up m a (by omega) hm qa⟩ (kds_cut C.fz ks rk) (mapO_repL (n := n) (fun d v x u r q => ih d v x u r q) (undAll_mono (Nat.le_of_lt hm) _ un) ra q2)
        | tbl _ _ => cases q
mutual
theorem walk_und {b : Nat} {f : Nat → Option D} (hf : ∀ m x, f m = some x → x.und b = true) : ∀ (d x : D), D.walk f d = some x → x.und b = true
  | .non, _, q => by cases q; rfl
  | .bl _, _, q => by cases q; rfl
  | .int _, _, q => by cases q; rfl
  | .str _, _, q => by cases q; rfl
  | .ref m, x, q => hf m x q
  | .tup ds, x, q => by
    unfold D.walk at q
    cases q2 : D.walkAll f ds with
    | none => rw [q2] at q; cases q
    | some xs => rw [q2] at q; cases q; exact walkAll_und hf ds xs q2
  | .lst ds, x, q => by
    unfold D.walk at q
    cases q2 : D.walkAll f ds with
    | none => rw [q2] at q; cases q
    | some xs => rw [q2] at q; cases q; exact walkAll_und hf ds xs q2
  | .cls _, x, q => by cases q; rfl
  | .exc c ks ds, x, q => by
    unfold D.walk at q
    cases q2 : D.walkAll f ds with
    | none => rw [q2] at q; cases q
    | some xs => rw [q2] at q; cases q; exact walkAll_und hf ds xs q2
  | .fnv _, x, q => by cases q; rfl
  | .ins c ks ds, x, q => by
    unfold D.walk at q
    cases q2 : D.walkAll f ds with
    | none => rw [q2] at q; cases q
    | some xs => rw [q2] at q; cases q; exact walkAll_und hf ds xs q2
  | .dct ks ds, x, q => by
    unfold D.walk at q
    cases q2 : D.walkAll f ds with
    | none => rw [q2] at q; cases q
    | some xs => rw [q2] at q; cases q; exact walkAll_und hf ds xs q2
  | .scr ds, x, q => by
    unfold D.walk at q
    cases q2 : D.walkAll f ds with
    | none => rw [q2] at q; cases q
    | some xs => rw [q2] at q; cases q; exact walkAll_und hf ds xs q2
theorem walkAll_und {b : Nat} {f : Nat → Option D} (hf : ∀ m x, f m = some x → x.und b = true) : ∀ (ds xs : List D), D.walkAll f ds = some xs → D.undAll b xs = true
  | [], _, q => by cases q; rfl
  | d :: ds, xs, q => by
    unfold D.walkAll at q
    cases q1 : D.walk f d with
    | none => rw [q1] at q; cases q
    | some x =>
      cases q2 : D.walkAll f ds with
      | none => rw [q1, q2] at q; cases q
      | some ys =>
        rw [q1, q2] at q; cases q
        unfold D.undAll
        rw [walk_und hf d x q1, walkAll_und hf ds ys q2]; rfl
end
theorem mapO_und {f : D → Option D} {b : Nat} (hf : ∀ d x, f d = some x → x.und b = true) : ∀ {ds es : List D}, mapO f ds = some es → D.undAll b es = true
  | [], _, q => by cases q; rfl
  | d :: ds, es, q => by
    unfold mapO at q
    cases q1 : f d with
    | none => rw [q1] at q; cases q
    | some x =>
      rw [q1] at q
      dsimp only at q
      cases q2 : mapO f ds with
      | none => rw [q2] at q; cases q
      | some xs => rw [q2] at q; cases q; unfold D.undAll; rw [hf d x q1, mapO_und hf q2]; rfl
theorem frz_und {b : Nat} : ∀ (k : Nat) (d x : D), frz b h' k d = some x → x.und b = true
  | 0, d, x, q => walk_und (fun m x q => by
      split at q
      · cases q; exact Nat.blt_eq.mpr (by assumption)
      · cases q) d x q
  | k + 1, d, x, q => walk_und (fun m x q => by
      split at q
      · cases q; exact Nat.blt_eq.mpr (by assumption)
      · cases q1 : cellAt h' m with
        | none => rw [q1] at q; cases q
        | some o =>
          rw [q1] at q
          cases o with
          | lst ds =>
            dsimp only at q
            cases q2 : mapO (frz b h' k) ds with
            | none => rw [q2] at q; cases q
            | some es => rw [q2] at q; cases q; exact mapO_und (fun d x q => frz_und k d x q) q2
          | ins c ks ds =>
            dsimp only at q
            cases q2 : mapO (frz b h' k) ds with
            | none => rw [q2] at q; cases q
            | some es => rw [q2] at q; cases q; exact mapO_und (fun d x q => frz_und k d x q) q2
          | dct ks ds =>
            dsimp only at q
            cases q2 : mapO (frz b h' k) ds with
            | none => rw [q2] at q; cases q
            | some es => rw [q2] at q; cases q; exact mapO_und (fun d x q => frz_und k d x q) q2
          | tbl _ _ => cases q) d x q
end

mutual
theorem walk_id : ∀ d : D, D.walk (fun m => some (.ref m)) d = some d
  | .non => rfl
  | .bl _ => rfl
  | .int _ => rfl
  | .str _ => rfl
  | .ref _ => rfl
  | .tup xs => by unfold D.walk; rw [walkAll_id xs]; rfl
  | .lst xs => by unfold D.walk; rw [walkAll_id xs]; rfl
  | .scr xs => by unfold D.walk; rw [walkAll_id xs]; rfl
  | .ins _ _ xs => by unfold D.walk; rw [walkAll_id xs]; rfl
  | .dct _ xs => by unfold D.walk; rw [walkAll_id xs]; rfl
  | .cls _ => rfl
  | .fnv _ => rfl
  | .exc _ _ xs => by unfold D.walk; rw [walkAll_id xs]; rfl
theorem walkAll_id : ∀ ds : List D, D.walkAll (fun m => some (.ref m)) ds = some ds
  | [] => rfl
  | d :: ds => by unfold D.walkAll; rw [walk_id d, walkAll_id ds]; rfl
end
mutual
theorem walk_low {b : Nat} : ∀ d : D, d.und b = true → D.walk (fun m => if m < b then some (.ref m) else none) d = some d
  | .non, _ => rfl
  | .bl _, _ => rfl
  | .int _, _ => rfl
  | .str _, _ => rfl
  | .ref m, u => by unfold D.walk; rw [if_pos (Nat.blt_eq.mp u)]
  | .tup xs, u => by unfold D.walk; rw [walkAll_low xs u]; rfl
  | .lst xs, u => by unfold D.walk; rw [walkAll_low xs u]; rfl
  | .scr xs, u => by unfold D.walk; rw [walkAll_low xs u]; rfl
  | .ins _ _ xs, u => by unfold D.walk; rw [walkAll_low xs u]; rfl
  | .dct _ xs, u => by unfold D.walk; rw [walkAll_low xs u]; rfl
  | .exc _ _ xs, u => by unfold D.walk; rw [walkAll_low xs u]; rfl
  | .cls _, _ => rfl
  | .fnv _, _ => rfl
theorem walkAll_low {b : Nat} : ∀ ds : List D, D.undAll b ds = true → D.walkAll (fun m => if m < b then some (.ref m) else none) ds = some ds
  | [], _ => rfl
  | d :: ds, u => by
    unfold D.undAll at u
    rw [Bool.and_eq_true] at u
    unfold D.walkAll
    rw [walk_low d u.1, walkAll_low ds u.2]; rfl
end
/-- the end of a def that was called with b cells; keep: it hands back a new cell -/
def finD (keep : Bool) (b : Nat) (d : D) (h : Hs) : Res D := if keep = true then (match liveAt h d with
    | none => .bad
    | some (n, xs) => if n < b then .bad else match mapO (frz b h 6) xs with
      | none => .bad
      | some ys => .ok (.ref b) (h.take b ++ [.live (.lst ys)])) else match frz b h 6 d with
    | none => .bad
    | some d' => .ok d' (h.take b)
def fin (keep : Bool) (b : Nat) (f : Fl) : Res D := match f with
  | .nx _ h => finD keep b .non h
  | .rt d h => finD keep b d h
  | _ => .bad
section
variable {K : PySem.W.Frag} {ι ι' : Io} {h h' : Hs} {H H' : Hp}
/-- where the cells of the caller stand behind the call -/
def cutI (ι ι' : Io) (b : Nat) : Io := ⟨ι'.c.take b, ι.g⟩
theorem cutI_get {b n : Nat} {x : Option Addr} (q : (cutI ι ι' b).c[n]? = some x) : n < b ∧ ι'.c[n]? = some x := by
  change (ι'.c.take b)[n]? = _ at q
  have hn : n < b := by
    have := (List.getElem?_eq_some_iff.mp q).1
    rw [List.length_take] at this
    omega
  rw [List.getElem?_take_of_lt hn] at q
  exact ⟨hn, q⟩
theorem own_up (x : Ext ι h H ι' h' H') {b : Nat} {a : Addr} (o : Own (cutI ι ι' b) a) : Own ι' a := by
  rcases o with ⟨n, o⟩ | o
  · exact .inl ⟨n, (cutI_get o).2⟩
  · exact .inr (by rw [x.g]; exact o)
theorem cut_base (R' : RH K ι' h' H') (x : Ext ι h H ι' h' H') (n : Nat) : Cut ι' h.length n (cutI ι ι' h.length) where
  low := fun m hm => List.getElem?_take_of_lt hm
  fz := fun a no o => no (own_up x o)
  up := fun m a hm _ q o => by
    rcases o with ⟨k, o⟩ | o
    · obtain ⟨hk, o⟩ := cutI_get o
      have e := R'.inj k m a o q
      omega
    · exact R'.gd a (by rw [x.g]; exact o) m q
theorem cut_orep {b n : Nat} {ιT : Io} {a : Addr} {o : O} (C : Cut ι' b n ιT) (hb : b ≤ n) (u : o.und b = true) (w : ORep K ι' H' a o) : ORep K ιT H' a o := by
  have go : ∀ {ds : List D} {vs : List V}, D.undAll b ds = true → RepL K ι' H' ds vs → RepL K ιT H' ds vs := fun {ds vs} u t => by
    refine walkAll_rep (f := fun m => if m < b then some (.ref m) else none) C (fun m v x hm r q => ?_) ds vs ds (undAll_mono hb ds u) t ?_
    · split at q
      · rename_i hb
        cases q
        cases r with
        | ref e => exact .ref (by rw [C.low m hb]; exact e)
        | dead e => exact .dead (by rw [C.low m hb]; exact e)
      · cases q
    · exact walkAll_low ds u
  cases o with
  | lst ds =>
    obtain ⟨vs, e, t⟩ := w
    exact ⟨vs, e, go u t⟩
  | ins c ks ds =>
    obtain ⟨C1, dx, fs, e, n, k, t⟩ := w
    exact ⟨C1, dx, fs, e, n, k, go u t⟩
  | dct ks ds =>
    obtain ⟨kv, vv, fd, rk, t⟩ := w
    exact ⟨kv, vv, fd, kds_cut C.fz ks rk, go u t⟩
  | tbl P q =>
    obtain ⟨rfl, ps, e, t, z⟩ := w
    refine ⟨rfl, ps, e, t, fun pos cv y => ?_⟩
    obtain ⟨c, e1, e2, e3⟩ := z pos cv y
    exact ⟨c, e1, e2, C.fz c e3⟩
theorem len_le (R : RH K ι h H) (R' : RH K ι' h' H') (x : Ext ι h H ι' h' H') : h.length ≤ h'.length := by
  rw [← R.len, ← R'.len]
  by_cases z : ι.c.length = 0
  · omega
  · have := x.pre.lt (n := ι.c.length - 1) (by omega)
    omega
theorem cutI_len (R : RH K ι h H) (R' : RH K ι' h' H') (x : Ext ι h H ι' h' H') : (cutI ι ι' h.length).c.length = h.length := by
  have := len_le R R' x
  show (ι'.c.take h.length).length = _
  rw [List.length_take, R'.len]
  omega
theorem fin_rh (R : RH K ι h H) (R' : RH K ι' h' H') (x : Ext ι h H ι' h' H') : RH K (cutI ι ι' h.length) (h'.take h.length) H' := by
  have hle := len_le R R' x
  have C := cut_base R' x h.length
  have at_ : ∀ n : Nat, n < h.length → (h'.take h.length)[n]? = h'[n]? := fun n hn => List.getElem?_take_of_lt hn
  have lt_of : ∀ {n : Nat} {c : Cl}, (h'.take h.length)[n]? = some c → n < h.length := fun {n c} q => by
    have := (List.getElem?_eq_some_iff.mp q).1
    rw [List.length_take] at this
    omega
  refine ⟨by rw [List.length_take, cutI_len R R' x]; omega, fun a m => R'.gs a (by rw [x.g]; exact m), fun a m n q => R'.gd a (by rw [x.g]; exact m) n (cutI_get q).2, fun n q => ?_, fun n o q => ?_, fun n m a q1 q2 => R'.inj n m a (cutI_get q1).2 (cutI_get q2).2⟩
  · have hn := lt_of q
    rw [at_ n hn] at q
    rw [C.low n hn]
    exact R'.dead n q
  · have hn : n < h.length := q.elim lt_of lt_of
    rw [at_ n hn] at q
    obtain ⟨a, qa, w, u⟩ := R'.cell n o q
    refine ⟨a, by rw [C.low n hn]; exact qa, cut_orep C (Nat.le_refl _) ?_ w, u⟩
    cases o with
    | lst ds => exact undAll_mono (Nat.le_of_lt hn) ds u
    | ins c ks ds => exact undAll_mono (Nat.le_of_lt hn) ds u
    | dct ks ds => exact undAll_mono (Nat.le_of_lt hn) ds u
    | tbl _ _ => rfl
theorem fin_ext (R : RH K ι h H) (R' : RH K ι' h' H') (x : Ext ι h H ι' h' H') : Ext ι h H (cutI ι ι' h.length) (h'.take h.length) H' := by
  refine ⟨fun n y q => ?_, x.frame, fun a o => x.own a (own_up x o), fun a m => ?_, fun n o q => ?_, rfl⟩
  · have hn : n < h.length := by rw [← R.len]; exact (List.getElem?_eq_some_iff.mp q).1
    have at_ : (cutI ι ι' h.length).c[n]? = ι'.c[n]? := List.getElem?_take_of_lt hn
    rw [at_]
    exact (x.pre n y q).imp_right fun ⟨e1, k1⟩ => ⟨e1, fun a ea => ⟨(k1 a ea).1, (k1 a ea).2.1, fun o => (k1 a ea).2.2 (own_up x o)⟩⟩
  · obtain ⟨n, q, o, w⟩ := m
    have hn : n < h.length := by
      have := (List.getElem?_eq_some_iff.mp w).1
      rw [List.length_take] at this
      omega
    rw [List.getElem?_take_of_lt hn] at w
    exact x.mt a ⟨n, (cutI_get q).2, o, w⟩
  · have hn : n < h.length := (List.getElem?_eq_some_iff.mp q).1
    rw [List.getElem?_take_of_lt hn]
    exact x.lk n o q
/-- what a caller gets -/
def KC (K : PySem.W.Frag) (ι : Io) (h : Hs) (H : Hp) (r : Res D) (Q : VK) : Prop := match r with
  | .ok d h' => ∀ ι' H' v, Ext ι h H ι' h' H' → RH K ι' h' H' → Rep K ι' H' d v → Q v H'
  | _ => False
theorem finD_ok {keep : Bool} {d : D} {v : V} {Q : VK} (R : RH K ι h H) (R' : RH K ι' h' H') (x : Ext ι h H ι' h' H') (r : Rep K ι' H' d v) (k : KC K ι h H (finD keep h.length d h') Q) : Q v H' := by
  unfold finD at k
  have Rf := fin_rh R R' x
  have xf := fin_ext R R' x
  have hle : h.length ≤ h'.length := len_le R R' x
  have lc : (cutI ι ι' h.length).c.length = h.length := cutI_len R R' x
  split at k
  · cases q : liveAt h' d with
    | none => rw [q] at k; exact k.elim
    | some nx =>
      obtain ⟨n, xs⟩ := nx
      rw [q] at k
      dsimp only at k
      obtain ⟨a, vs, rfl, hm, qa, w, t, b⟩ := liveAt_rep R' q r
      split at k
      · exact k.elim
      · rename_i hn
        cases q2 : mapO (frz h.length h' 6) xs with
        | none => rw [q2] at k; exact k.elim
        | some ys =>
          rw [q2] at k
          have noA : ¬ Own (cutI ι ι' h.length) a := (cut_base R' x (n + 1)).up n a (by omega) (Nat.lt_succ_self n) qa
          have hA : H a = none := by
            cases z : H a with
            | none => rfl
            | some u =>
              rcases x.own a (.inl ⟨n, qa⟩) with o | o
              · rcases o with ⟨k, o⟩ | o
                · rcases x.pre k _ o with y | ⟨_, y⟩
                  · have e := R'.inj k n a y qa
                    have := (List.getElem?_eq_some_iff.mp o).1
                    rw [R.len] at this
                    omega
                  · exact absurd (.inl ⟨n, qa⟩) (y a rfl).2.2
                · exact absurd qa (R'.gd a (by rw [x.g]; exact o) n)
              · rw [z] at o; cases o
          have C : Cut ι' h.length n ⟨(cutI ι ι' h.length).c ++ [some a], ι.g⟩ := by
            have C0 := cut_base R' x n
            refine ⟨fun m hm => ?_, fun a' no o => ?_, fun m a' h1 h2 qm o => ?_⟩
            · show ((cutI ι ι' h.length).c ++ [some a])[m]? = _
              rw [get_snoc, if_neg (by rw [lc]; omega)]
              exact C0.low m hm
            · rcases o with ⟨j, o⟩ | o
              · change ((cutI ι ι' h.length).c ++ [some a])[j]? = _ at o
                rw [get_snoc] at o
                split at o
                · cases o; exact no (.inl ⟨n, qa⟩)
                · exact no (own_up x (.inl ⟨j, o⟩))
              · exact no (own_up x (b := h.length) (.inr o))
            · rcases o with ⟨j, o⟩ | o
              · change ((cutI ι ι' h.length).c ++ [some a])[j]? = _ at o
                rw [get_snoc] at o
                split at o
                · cases o
                  have := R'.inj m n a qm qa
                  omega
                · exact C0.up m a' h1 h2 qm (.inl ⟨j, o⟩)
              · exact C0.up m a' h1 h2 qm (.inr o)
          have ry : RepL K ⟨(cutI ι ι' h.length).c ++ [some a], ι.g⟩ H' ys vs := mapO_repL (n := n) (fun d v y u r q => frz_rep R' C 6 d v y u r q) b t q2
          have ub : D.undAll h.length ys = true := mapO_und (fun d y q => frz_und 6 d y q) q2
          have lt : (h'.take h.length).length = h.length := by rw [List.length_take]; omega
          have Rn : RH K ⟨(cutI ι ι' h.length).c ++ [some a], ι.g⟩ (h'.take h.length ++ [.live (.lst ys)]) H' := by
            refine ⟨?_, Rf.gs, fun b' m j q => ?_, fun j q => ?_, fun j o q => ?_, fun j l b' q1 q2 => ?_⟩
            · show ((cutI ι ι' h.length).c ++ [some a]).length = _
              rw [List.length_append, List.length_append, lt, lc]
              rfl
            · change ((cutI ι ι' h.length).c ++ [some a])[j]? = _ at q
              rw [get_snoc] at q
              split at q
              · cases q; exact noA (.inr m)
              · exact Rf.gd b' m j q
            · rw [get_snoc] at q
              split at q
              · cases q
              · rename_i hj
                show ((cutI ι ι' h.length).c ++ [some a])[j]? = _
                rw [get_snoc, if_neg (by rw [lc]; omega)]
                exact Rf.dead j q
            · rw [get_snoc] at q
              split at q
              · rename_i hj
                have eo : o = .lst ys := by
                  rcases q with q | q
                  · cases q; rfl
                  · cases q
                subst eo
                exact ⟨a, by show ((cutI ι ι' h.length).c ++ [some a])[j]? = _; rw [get_snoc, if_pos (by rw [lc]; omega)], ⟨vs, w, ry⟩, by rw [hj, lt]; exact ub⟩
              · have hj : j < h.length := by
                  have z : j < (h'.take h.length).length := by
                    rcases q with q | q
                    · exact (List.getElem?_eq_some_iff.mp q).1
                    · exact (List.getElem?_eq_some_iff.mp q).1
                  omega
                rw [List.getElem?_take_of_lt hj] at q
                obtain ⟨a', qa', w', u'⟩ := R'.cell j o q
                refine ⟨a', by rw [C.low j hj]; exact qa', cut_orep C (by omega) ?_ w', u'⟩
                cases o with
                | lst ds => exact undAll_mono (Nat.le_of_lt hj) ds u'
                | ins c ks ds => exact undAll_mono (Nat.le_of_lt hj) ds u'
                | dct ks ds => exact undAll_mono (Nat.le_of_lt hj) ds u'
                | tbl _ _ => rfl
            · change ((cutI ι ι' h.length).c ++ [some a])[j]? = _ at q1
              change ((cutI ι ι' h.length).c ++ [some a])[l]? = _ at q2
              rw [get_snoc] at q1 q2
              split at q1
              · split at q2
                · omega
                · cases q1; exact absurd (.inl ⟨l, q2⟩) noA
              · split at q2
                · cases q2; exact absurd (.inl ⟨j, q1⟩) noA
                · exact Rf.inj j l b' q1 q2
          refine k ⟨(cutI ι ι' h.length).c ++ [some a], ι.g⟩ H' _ ⟨fun m y e => ?_, xf.frame, fun b' o => ?_, fun b' m => ?_, fun m o e => ?_, rfl⟩ Rn (.ref ?_)
          · have hm : m < h.length := by rw [← R.len]; exact (List.getElem?_eq_some_iff.mp e).1
            have at_ : (⟨(cutI ι ι' h.length).c ++ [some a], ι.g⟩ : Io).c[m]? = (cutI ι ι' h.length).c[m]? := by
              show ((cutI ι ι' h.length).c ++ [some a])[m]? = _
              rw [get_snoc, if_neg (by rw [lc]; omega)]
            rw [at_]
            exact (xf.pre m y e).imp_right fun ⟨e1, k1⟩ => ⟨e1, fun b' eb => ⟨(k1 b' eb).1, (k1 b' eb).2.1, fun z => by
              rcases z with ⟨j, z⟩ | z
              · change ((cutI ι ι' h.length).c ++ [some a])[j]? = _ at z
                rw [get_snoc] at z
                split at z
                · cases z
                  obtain ⟨u, s⟩ := R.own_some (.inl ⟨m, by rw [e, eb]⟩)
                  rw [hA] at s; cases s
                · exact (k1 b' eb).2.2 (.inl ⟨j, z⟩)
              · exact (k1 b' eb).2.2 (.inr z)⟩⟩
          · rcases o with ⟨j, o⟩ | o
            · change ((cutI ι ι' h.length).c ++ [some a])[j]? = _ at o
              rw [get_snoc] at o
              split at o
              · cases o; exact .inr hA
              · exact xf.own _ (.inl ⟨j, o⟩)
            · exact .inl (.inr o)
          · obtain ⟨j, q1, o, q2⟩ := m
            change ((cutI ι ι' h.length).c ++ [some a])[j]? = _ at q1
            rw [get_snoc] at q1
            split at q1
            · cases q1; exact .inr hA
            · rename_i hj
              rw [get_snoc, if_neg (by rw [lt, ← lc]; exact hj)] at q2
              exact xf.mt b' ⟨j, q1, o, q2⟩
          · have e' := xf.lk m o e
            rw [get_snoc, if_neg (fun z => by rw [z, List.getElem?_eq_none (Nat.le_refl _)] at e'; cases e')]
            exact e'
          · show ((cutI ι ι' h.length).c ++ [some a])[h.length]? = _
            rw [get_snoc, if_pos lc.symm]
  · cases q : frz h.length h' 6 d with
    | none => rw [q] at k; exact k.elim
    | some d' =>
      rw [q] at k
      exact k (cutI ι ι' h.length) H' v xf Rf (frz_rep R' (cut_base R' x ι'.c.length) 6 d v d' r.und r q)
end
end Ev
/-! EvL: own defs; the text's expressions as readings. -/
namespace Ev
open PySem PySem.Spec L2
variable [TheW]

/-! ### a def of the text, called where no repr runs -/
structure GFn (P : Program) (w : World) (K : PySem.W.Frag) (mg : Str → Option Value) (base : Heap) (k : Nat) (f : Addr) (fd : FuncData) (ps : List Str) (sp : Sp) : Prop where
  len : ∀ vs H Q E, sp vs H Q E → vs.length = ps.length
  run : ∀ (A : Around) (outer : List Env) (s : Shared) (H : Hp) (args : Args) (us : List Value) (vs : List V) (Q : VK) (E : XK), Room k A → A.guards = some [] → Env0 P w K mg base A outer s H → BindsTo s fd args (ps.zip us) →
    Vals vs us → sp vs H Q E → codeAny (model P w) A (.call (.ref f) args) (CR CX0 outer P w H s Q E) s
/-- the promise: what ρ says -/
def spR (K : PySem.W.Frag) (ρ : List D → Hs → Res D) (n : Nat) : Sp := fun vs H Q _ => vs.length = n ∧ ∃ ι h ds, RH K ι h H ∧ RepL K ι H ds vs ∧ KC K ι h H (ρ ds h) Q
def dCall (ρ : List D → Hs → Res D) (n : Nat) (a : DenA) : Den := fun e h => (a e h).bind fun ds h => if ds.length = n then ρ ds h else .bad
section
variable {X : Cx} {k n : Nat} {f : Addr} {fd : FuncData} {ps : List Str} {sp : Sp} {x : Str} {p pos : Pos} {a : Expr} {es : List Expr} {ρ : List D → Hs → Res D} {da : DenA}
theorem runG {pins : List (Addr × Obj)} {σ : St} {H : Hp} {s : Shared} {Q : VK} {args : List Value} {kws : List (Str × Value)} {us : List Value} {vs : List V} (F : GFn X.prog X.w X.K X.mg X.base k f fd ps sp) (hr : Room k X.A) (hgd : X.A.guards = some []) (I : Inv X pins σ H s)
    (bt : BindsTo s fd ⟨args, kws⟩ (ps.zip us)) (r : Vals vs us) (h : sp vs H Q E0) : wpAny (model X.prog X.w) X.A (call (.ref f) args kws) (EP X pins σ Q) X.xe s := by
  refine wpAny_call (codeAny_mono (F.run X.A X.stack s H _ us vs Q E0 hr hgd I.env0 bt r h) ?_)
  intro res s' hq
  match res, hq with
  | .ok (.ret u), hq => exact I.after hq
theorem call_rd {K : PySem.W.Frag} {σ : St} {H : Hp} {Q : VK} (h : rdE K (dCall ρ n da) σ H Q) : rdA K da σ H fun vs H1 => spR K ρ n vs H1 Q E0 := by
  obtain ⟨ι, e, h, R, k⟩ := h
  refine ⟨ι, e, h, R, (Kg.bind k).imp fun vs H1 ⟨ds, h1, ι1, n1⟩ => ?_⟩
  have k1 := n1.k
  split at k1
  · rename_i hl
    refine ⟨by rw [← n1.rr.length]; exact hl, ι1, h1, ds, n1.R.rh, n1.rr, ?_⟩
    cases q : ρ ds h1 with
    | err _ _ => rw [q] at k1; exact k1
    | bad => rw [q] at k1; exact k1
    | ok d h2 => rw [q] at k1; exact fun ι' H' v y R' rv => k1 ι' H' v y ⟨R', n1.R.re.ext y⟩ rv
  · exact k1.elim
theorem s_call (F : GFn X.prog X.w X.K X.mg X.base k f fd ps (spR X.K ρ n)) (hr : Room k X.A) (hgd : X.A.guards = some []) (hg : Gl X x) (hm : X.mg x = some (.ref f)) (hk : PySem.W.keepIn X.K (.ref f) = true) (hb : Binds X.K fd ps []) (hd : (x == ("__debug__" : Str)) = false)
    (ha : PA X (a :: es) (rdA X.K da)) (pl : (a :: es).all plain = true) : PE X (.Call (.Name x p) (a :: es) [] pos) (rdE X.K (dCall ρ n da)) := by
  rw [List.all_cons, Bool.and_eq_true] at pl
  constructor
  intro pins s σ H Q I h
  refine wpAny_Call_Name_kw (ld_glob I hg hm ?_ hd)
  refine PySem.W.callWith_K (h₀ := X.base) I.ok.mod.kin hk (thn (ha.run pos pins s σ H _ I (call_rd h)) ?_) (star_of pl.1) (star_all pl.2)
  rintro us s1 ⟨vs, H1, I1, r, q⟩
  have hl : (us ++ []).length = ps.length := by rw [List.append_nil, ← r.length]; exact F.len _ _ _ _ q
  have bt := hb s1 us I1.kIn hl
  rw [List.append_nil] at bt
  exact ⟨I1.kIn, runG F hr hgd I1 bt r q⟩
theorem s_call0 (F : GFn X.prog X.w X.K X.mg X.base k f fd ps (spR X.K ρ 0)) (hr : Room k X.A) (hgd : X.A.guards = some []) (hg : Gl X x) (hm : X.mg x = some (.ref f)) (hk : PySem.W.keepIn X.K (.ref f) = true) (hb : Binds X.K fd ps []) (hd : (x == ("__debug__" : Str)) = false) :
    PE X (.Call (.Name x p) [] [] pos) (rdE X.K (dCall ρ 0 aNil)) := by
  constructor
  intro pins s σ H Q I h
  obtain ⟨ι, e, h', R, kk⟩ := h
  have q : spR X.K ρ 0 [] H Q E0 := by
    refine ⟨rfl, ι, h', [], R.rh, .nil, ?_⟩
    have kk : Kd X.K ι h' H e σ (ρ [] h') Q := kk
    cases q : ρ [] h' with
    | err _ _ => rw [q] at kk; exact kk
    | bad => rw [q] at kk; exact kk
    | ok d h2 => rw [q] at kk; exact fun ι' H' v y R' rv => kk ι' H' v y ⟨R', R.re.ext y⟩ rv
  refine wpAny_Call_Name_kw (ld_glob I hg hm ?_ hd)
  refine PySem.W.callWith_K0 I.kIn hk ?_
  have bt := hb s [] I.kIn (by rw [List.append_nil]; exact F.len _ _ _ _ q)
  exact runG F hr hgd I bt .nil q
/-- the arguments in the parameters' order -/
def permL {α : Type} (pm : List Nat) (xs : List α) : List α := pm.filterMap fun i => xs[i]?
def dCallK (ρ : List D → Hs → Res D) (m : Nat) (pm : List Nat) (a : DenA) : Den := fun e h => (a e h).bind fun ds h => if ds.length = m then if (permL pm ds).length = pm.length then ρ (permL pm ds) h else .bad else .bad
theorem permL_rep {K : PySem.W.Frag} {ι : Io} {H : Hp} {ds : List D} {vs : List V} (r : RepL K ι H ds vs) : ∀ pm : List Nat, RepL K ι H (permL pm ds) (permL pm vs)
  | [] => .nil
  | i :: pm => by
    unfold permL
    rw [List.filterMap_cons, List.filterMap_cons]
    cases q : ds[i]? with
    | none =>
      have : vs[i]? = none := List.getElem?_eq_none_iff.mpr (by rw [← r.length]; exact List.getElem?_eq_none_iff.mp q)
      rw [this]
      exact permL_rep r pm
    | some d =>
      obtain ⟨v, e, rv⟩ := r.get q
      rw [e]
      exact .cons rv (permL_rep r pm)
theorem permL_vals {vs : List V} {us : List Value} (r : Vals vs us) : ∀ pm : List Nat, Vals (permL pm vs) (permL pm us)
  | [] => .nil
  | i :: pm => by
    unfold permL
    rw [List.filterMap_cons, List.filterMap_cons]
    cases q : vs[i]? with
    | none => rw [r.none_of q]; exact permL_vals r pm
    | some d =>
      obtain ⟨v, e, rv⟩ := r.get q
      rw [e]
      exact .cons rv (permL_vals r pm)
theorem _root_.L2.PK.wkn {kws : List Keyword} {t t' : TA} (q : PK X kws t) (i : ∀ σ H Q, t' σ H Q → t σ H Q) : PK X kws t' := ⟨fun pos pins s σ H Q I z => q.run pos pins s σ H Q I (i _ _ _ z)⟩
theorem k_nil : PK X [] (rdA X.K aNil) := pk_nil.wkn fun _ _ _ ⟨_, _, _, R, k⟩ => k.here R .nil
theorem k_cons {nm : Option Str} {kpos : Pos} {kws : List Keyword} {da : Den} {dr : DenA} (ha : PE X a (rdE X.K da)) (hr : PK X kws (rdA X.K dr)) : PK X (⟨nm, a, kpos⟩ :: kws) (rdA X.K (aCons da dr)) := by
  refine (pk_cons ha hr).wkn fun σ H Q ⟨ι, e, h, R, k⟩ => ⟨ι, e, h, R, (Kg.bind k).imp fun v H1 ⟨d, h1, ι1, n1⟩ => ⟨ι1, e, h1, n1.R, (Kg.bind n1.k).imp fun vs H2 ⟨ds, h2, ι2, n2⟩ => ?_⟩⟩
  exact n2.k.here n2.R (.cons (n1.rr.ext n2.x) n2.rr)
theorem kw_some {pos : Pos} {env : Env} : ∀ {kws : List Keyword} {ks : List Str}, kws.map (·.arg) = ks.map some → (backToKw pos (keywordEach kws env)).all (·.1.isSome) = true ∧ (backToKw pos (keywordEach kws env)).any (·.1.isNone) = false ∧ (backToKw pos (keywordEach kws env)).filterMap (·.1) = ks
  | [], [], _ => ⟨rfl, rfl, rfl⟩
  | ⟨nm, v, kp⟩ :: kws, k :: ks, h => by
    rw [List.map_cons, List.map_cons] at h
    injection h with h1 h2
    simp only at h1
    subst h1
    obtain ⟨a1, a2, a3⟩ := kw_some (pos := pos) (env := env) h2
    refine ⟨?_, ?_, ?_⟩
    · show (List.all (_ :: backToKw pos (keywordEach kws env)) _) = true
      rw [List.all_cons, a1]; rfl
    · show (List.any (_ :: backToKw pos (keywordEach kws env)) _) = false
      rw [List.any_cons, a2]; rfl
    · show (List.filterMap _ (_ :: backToKw pos (keywordEach kws env))) = _
      rw [List.filterMap_cons, a3]
theorem callK_rd {K : PySem.W.Frag} {m : Nat} {pm : List Nat} {σ : St} {H : Hp} {Q : VK} (h : rdE K (dCallK ρ m pm da) σ H Q) : rdA K da σ H fun vs H1 => vs.length = m ∧ spR K ρ pm.length (permL pm vs) H1 Q E0 := by
  obtain ⟨ι, e, h, R, k⟩ := h
  refine ⟨ι, e, h, R, (Kg.bind k).imp fun vs H1 ⟨ds, h1, ι1, n1⟩ => ?_⟩
  have k1 := n1.k
  split at k1
  · rename_i hl
    split at k1
    · rename_i hp
      have rp := permL_rep n1.rr pm
      refine ⟨by rw [← n1.rr.length]; exact hl, by rw [← rp.length]; exact hp, ι1, h1, _, n1.R.rh, rp, ?_⟩
      cases q : ρ (permL pm ds) h1 with
      | err _ _ => rw [q] at k1; exact k1
      | bad => rw [q] at k1; exact k1
      | ok d h2 => rw [q] at k1; exact fun ι' H' v y R' rv => k1 ι' H' v y ⟨R', n1.R.re.ext y⟩ rv
    · exact k1.elim
  · exact k1.elim
theorem s_callK {kws : List Keyword} {ks : List Str} {pm : List Nat} (F : GFn X.prog X.w X.K X.mg X.base k f fd ps (spR X.K ρ pm.length)) (hr : Room k X.A) (hgd : X.A.guards = some []) (hg : Gl X x) (hm : X.mg x = some (.ref f)) (hk : PySem.W.keepIn X.K (.ref f) = true)
    (hb : ∀ (s : Shared) (us : List Value), X.K.In s.heap → us.length = ks.length → BindsTo s fd ⟨[], ks.zip us⟩ (ps.zip (permL pm us))) (hd : (x == ("__debug__" : Str)) = false) (hn : kws.map (·.arg) = ks.map some) (ha : PK X kws (rdA X.K da)) :
    PE X (.Call (.Name x p) [] kws pos) (rdE X.K (dCallK ρ ks.length pm da)) := by
  obtain ⟨a1, a2, a3⟩ := kw_some (pos := pos) (env := X.env) hn
  constructor
  intro pins s σ H Q I h
  refine wpAny_Call_Name_kw (ld_glob I hg hm ?_ hd)
  refine PySem.W.callWith_KW0 (h₀ := X.base) I.ok.mod.kin hk a1 (thn (ha.run pos pins s σ H _ I (callK_rd h)) ?_) (by rw [a2]; rfl)
  rintro us s1 ⟨vs, H1, I1, r, hl, q⟩
  refine ⟨I1.kIn, ?_⟩
  rw [a3]
  exact runG F hr hgd I1 (hb s1 us I1.kIn (by rw [← r.length]; exact hl)) (permL_vals r pm) q
end

end Ev
/-! EvU: enumerate over a tuple or a list. -/
namespace Ev
open PySem PySem.Spec L2 PyProof.Rows
variable [TheW]

/-- the tuple at a, each item in a new pair -/
def Iet (K : PySem.W.Frag) (a : Addr) : It :=
  ⟨fun i H => ∃ (xs : List V) (x : V), SqT K H a xs ∧ xs[i]? = some x, fun i H v H' => ∃ T x, v = .ref T ∧ H T = none ∧ H' = upd H T (.tup [.int (i : Nat), x]) ∧ ∀ xs, SqT K H a xs → xs[i]? = some x, fun i H => ∃ xs : List V, SqT K H a xs ∧ xs.length = i⟩
theorem turn_enumT {P : Program} {w : World} {K : PySem.W.Frag} {elts : List Expr} {kk : Nat} {tpos : Pos} (a e it : Addr) :
    Turn P w K (.Tuple elts kk tpos) (Iet K a) [e, it] e (fun i h => (∃ old, IsEnum h e it ((i : Nat) : Int) old) ∧ h.IsTupleIter it a i ∧ e ≠ it) where
  mem := by simp
  obj := fun i h st b hb => by
    obtain ⟨⟨old, he⟩, ⟨o, ho, hc, hd⟩, _⟩ := st
    rcases (by simpa using hb : b = e ∨ b = it) with z | z
    · subst z; exact ⟨_, he, fun v q => nomatch q⟩
    · subst z; exact ⟨o, ho, fun v q => by rw [hd] at q; cases q⟩
  keep := fun i h h' ⟨⟨old, he⟩, hi, hne⟩ k => ⟨⟨old, k e (by simp) _ he⟩, hi.at fun o q => k it (by simp) o q, hne⟩
  item := by
    intro X hP hw hK hc i pins s σ H E I hf ⟨⟨old, he⟩, hit, hne⟩ ⟨xs, x, hq, hx⟩
    subst hP hw hK
    obtain ⟨its, rv, p, hz⟩ := I.tuple hq
    have p : s.heap.IsTuple a its.toArray := p
    obtain ⟨u, hu, ru⟩ := rv.get hx
    have lte : e < s.heap.objs.size := Heap.lt_size he
    have lti : it < s.heap.objs.size := by obtain ⟨_, q, _⟩ := hit; exact Heap.lt_size q
    have ait : a ≠ it := fun z => by
      subst z
      obtain ⟨o, q1, q2, _⟩ := hit
      obtain ⟨o', q3, q4, _⟩ := p
      rw [q1] at q3; cases q3; rw [q2] at q4; exact absurd q4 (by decide)
    have ae : e ≠ a := fun z => by
      subst z
      obtain ⟨o', q3, q4, _⟩ := p
      rw [show s.heap.get? e = _ from he] at q3; cases q3; exact absurd (show Value.type "enumerate" = Value.type "tuple" from q4) (by decide)
    have hi : i < its.toArray.size := by
      have := (List.getElem?_eq_some_iff.mp hu).1
      simpa using this
    refine wpAny_pyNext_enum_itemC (Draws.tuple (A := X.A.in1) (I.ok.hd hc) it a ait its.toArray) he ⟨hit, p⟩ hi hne (by simp [hne, ae]) fun y h' tk hy ho hit' hT hsz hk => ?_
    have ey : y = u := by
      have : its.toArray[i]? = some u := by simpa using hu
      rw [this] at hy; cases hy; rfl
    subst ey
    refine ⟨_, rfl, wpAny_letOwnedTupleGo_enum (s := { s with heap := h', toks := tk + 1 }) ho fun h'' he' sb => ?_⟩
    have hT2 := (sb.2 _ (Nat.ne_of_gt lte)).trans hT
    have I1 : Inv X pins σ (upd H s.heap.objs.size (.tup [.int (i : Nat), x])) { s with heap := h'', toks := tk + 1 } :=
      I.turnedNew (ch := [e, it]) (fun b ob hb q => (sb.2 b (fun z => hb (by simp [z]))).trans (hk b ob (fun z => hb (by simp [z])) (fun z => hb (by simp [z])) q)) hf (Nat.le_refl _)
        ⟨by show 2 ≤ sizeLine; decide, [.int i tk, y], .cons ⟨_, rfl⟩ (.cons ru .nil), ⟨_, hT2, rfl, _, rfl⟩⟩
    refine ⟨.ref s.heap.objs.size, _, I1, rfl, ⟨_, x, rfl, I.hok.fresh (Nat.le_refl _), rfl, fun ys hy => by rw [I.tuple_inj hy hq]; exact hx⟩, ⟨⟨y, ?_⟩, hit'.1.at fun o q => (sb.2 it (Ne.symm hne)).trans q, hne⟩, fun b hb => ?_⟩
    · rw [show ((i + 1 : Nat) : Int) = (i : Int) + 1 by omega]; exact he'
    · have hb' : b < s.heap.objs.size := by
        rcases (by simpa using hb : b = e ∨ b = it) with z | z
        · subst z; exact lte
        · subst z; exact lti
      rw [upd_ne (Nat.ne_of_lt hb')]
      exact (hf b hb).1
  done := by
    intro X hP hw hK hc i pins s σ H E I hf ⟨⟨old, he⟩, hit, hne⟩ ⟨xs, hq, hx⟩
    subst hP hw hK
    obtain ⟨its, rv, p, hz⟩ := I.tuple hq
    have p : s.heap.IsTuple a its.toArray := p
    have ait : a ≠ it := fun z => by
      subst z
      obtain ⟨o, q1, q2, _⟩ := hit
      obtain ⟨o', q3, q4, _⟩ := p
      rw [q1] at q3; cases q3; rw [q2] at q4; exact absurd q4 (by decide)
    obtain ⟨f0, f1, f2, f3, f4, f5⟩ := hf it (by simp)
    have hl := rv.length
    have hn : i = its.toArray.size := by rw [List.size_toArray]; omega
    refine wpAny_pyNext_enum_endD (Draws.tuple (A := X.A.in1) (I.ok.hd hc) it a ait its.toArray) he ⟨hn ▸ hit, p⟩ fun h' eb => ⟨rfl, I.turned (t' := s.toks) (fun b o hb q => eb b o hb q) f0 f1 f3 f4 f5⟩
  self := fun A i s Q E ⟨⟨_, he⟩, _⟩ h => wpAny_pyIter_enum he h

theorem meets_enumT {v : Value} {o : Obj} {H : Heap → Prop} (B : Begins v o H) :
    Meets (Builtin.«enumerate.__new__» ⟨[.type "enumerate", v], []⟩) (fun _ R s => H s.heap ∧
      R (.ok (.ret (.ref (s.heap.push o).objs.size))) { s with heap := (s.heap.push o).push { cls := .type "enumerate", data := .fields #[.none, .bool false, .ref s.heap.objs.size, rawInt 0, .none, .none] } }) :=
  .of_wp fun prog w A R s h => by
    obtain ⟨hp, g, d, tk, os⟩ := s; obtain ⟨h1, h⟩ := h
    have hsub := sub_enumerate
    have q1 : ∀ {A' : Around} {E : Value → Shared → Prop} {Q : Value → Shared → Prop}, Q (.ref hp.objs.size) ⟨hp.push o, g, d, tk, os⟩ → wpAny (model prog w) A' (pyIter v) Q E ⟨hp, g, d, tk, os⟩ :=
      fun q => B.iter prog w _ _ ⟨hp, g, d, tk, os⟩ _ h1 q
    wp_walk using q1
    refine wpAny_stack_any fun st => wpAny_pure ?_
    split
    · rename_i c _ _ _ _ _
      cases (c == Value.type "enumerate")
      · wp_walk using q1
        exact ⟨_, rfl, h⟩
      · wp_walk using q1
        exact ⟨_, rfl, h⟩
    · wp_walk using q1
      exact ⟨_, rfl, h⟩
theorem call_enumT {prog : Program} {w : World} {A : Around} {E : Value → Shared → Prop} {s : Shared} {v : Value} {o : Obj} {H : Heap → Prop} {Q : Value → Shared → Prop} (B : Begins v o H) (h1 : H s.heap)
    (h : ∀ h', IsEnum h' (s.heap.objs.size + 1) s.heap.objs.size 0 .none → h'.get? s.heap.objs.size = some o → (∀ b o, s.heap.get? b = some o → h'.get? b = some o) → Q (.ref (s.heap.objs.size + 1)) { s with heap := h' }) :
    wpAny (model prog w) A (call (.type "enumerate") [v]) Q E s := by
  refine callType_new F.called_enumerate (by decide) (F.typeCall_enumerate_1 _) (F.newCall_enumerate_1 _) (fun obj => F.args_object_init_2 obj _) F.entry_enumerate_new (meets_enumT B) ⟨h1, ?_⟩
  have hz : (s.heap.push o).objs.size = s.heap.objs.size + 1 := Heap.size_push ..
  show _ ∧ _
  rw [hz]
  have he := Heap.get?_push_size (s.heap.push o) (o := { cls := .type "enumerate", data := .fields #[.none, .bool false, .ref s.heap.objs.size, rawInt 0, .none, .none] }) rfl
  rw [hz] at he
  exact ⟨⟨_, he, rfl⟩, h _ he (Heap.get?_push_of_some _ (Heap.get?_push_size _ B.free)) fun b o x => Heap.get?_push_of_some _ (Heap.get?_push_of_some _ x)⟩
/-- enumerate of a list or a tuple -/
def iEnA (K : PySem.W.Frag) (ta : TA) : TI := fun σ H R => ta σ H fun vs H1 => (∃ a xs, vs = [.ref a] ∧ SqL K H1 a xs ∧ R (Ite K a) H1) ∨ ∃ a xs, vs = [.ref a] ∧ SqT K H1 a xs ∧ R (Iet K a) H1
theorem pi_enA {X : Cx} {e : Expr} {ta : TA} {p pos tpos : Pos} {elts : List Expr} {kk : Nat} (hg : Gl X "enumerate") (hm : X.mg "enumerate" = none) (ha : PA X [e] ta) (hs : starEach [e] X.env = [(false, eval e X.env)] := by rfl) :
    PI X (.Tuple elts kk tpos) (.Call (.Name "enumerate" p) [e] [] pos) (iEnA X.K ta) := by
  refine ⟨fun pins s σ H R I h => ?_⟩
  refine Call_ (ld_blt I hg hm boot_enumerate (PyProof.Rows.callWith_type1 (thn (ha.run pos pins s σ H _ I h) fun us s1 ⟨vs, H1, I1, r1, q1⟩ => ?_) hs rfl))
  have fps : ∀ b ∈ [s1.heap.objs.size + 1, s1.heap.objs.size], FpOk X pins H1 b := fun b hb => by
    have hle : s1.heap.objs.size ≤ b := by
      rcases (by simpa using hb : b = s1.heap.objs.size + 1 ∨ b = s1.heap.objs.size) with z | z
      · rw [z]; exact Nat.le_add_right _ _
      · rw [z]; exact Nat.le_refl _
    exact I1.fpOk hle (I1.hok.fresh hle)
  rcases q1 with ⟨a, xs, ex, hq, q⟩ | ⟨a, xs, ex, hq, q⟩
  · subst ex
    cases r1 with
    | cons r rr =>
      cases rr
      cases r
      obtain ⟨its, rv, p', hz⟩ := I1.list hq
      refine call_enumerate_list p'.isList fun h' he hit hsz hk => wpAny_pyIter_enum he ?_
      exact ⟨s1.heap.objs.size + 1, _, _, _, H1, rfl, I1.kept (t' := s1.toks) hk, turn_enum a (s1.heap.objs.size + 1) s1.heap.objs.size, ⟨⟨.none, he⟩, hit, Nat.succ_ne_self _⟩, fps, q⟩
  · subst ex
    cases r1 with
    | cons r rr =>
      cases rr
      cases r
      obtain ⟨its, rv, p', hz⟩ := I1.tuple hq
      have p' : s1.heap.IsTuple a its.toArray := p'
      refine call_enumT (begins_tuple a its.toArray) p' fun h' he hit hk => wpAny_pyIter_enum he ?_
      exact ⟨s1.heap.objs.size + 1, _, _, _, H1, rfl, I1.kept (t' := s1.toks) hk, turn_enumT a (s1.heap.objs.size + 1) s1.heap.objs.size, ⟨⟨.none, he⟩, ⟨_, hit, rfl, rfl⟩, Nat.succ_ne_self _⟩, fps, q⟩
def pairsL : Nat → List D → List D
  | _, [] => []
  | i, x :: xs => .tup [.int (i : Nat), x] :: pairsL (i + 1) xs
theorem pairs_len : ∀ (i : Nat) (xs : List D), (pairsL i xs).length = xs.length
  | _, [] => rfl
  | i, x :: xs => by show (pairsL (i + 1) xs).length + 1 = _; rw [pairs_len (i + 1) xs]; rfl
theorem pairs_get : ∀ (i : Nat) (xs : List D) (j : Nat) (d : D), (pairsL i xs)[j]? = some d → ∃ x, xs[j]? = some x ∧ d = .tup [.int ((i + j : Nat) : Int), x]
  | _, [], _, _, q => by cases q
  | i, x :: xs, 0, d, q => by cases q; exact ⟨x, rfl, rfl⟩
  | i, x :: xs, j + 1, d, q => by
    obtain ⟨y, q1, e⟩ := pairs_get (i + 1) xs j d q
    exact ⟨y, q1, by rw [e, show i + 1 + j = i + (j + 1) by omega]⟩

section
variable {X : Cx} {K : PySem.W.Frag} {ι : Io} {h : Hs} {H : Hp} {da : Den}
theorem wk_pairs {vs : List V} {xs : List D} {J : It} (T : Hp → Prop) (S : Io → Hs → Hp → Prop) (hS : S ι h H) (st : ∀ ι h H ι' h' H', S ι h H → Pres ι h H ι' h' H' → S ι' h' H') (hT : ∀ ι h H, S ι h H → T H ∧ RepL K ι H xs vs)
    (go : ∀ H i x, T H → vs[i]? = some x → J.go i H) (yl : ∀ H i x H', T H → J.yld i H x H' → ∃ p y, x = .ref p ∧ H p = none ∧ H' = upd H p (.tup [.int (i : Nat), y]) ∧ vs[i]? = some y) (sp : ∀ H, T H → J.stop vs.length H) : Wk K ι h H (pairsL 0 xs) J := by
  refine ⟨S, hS, st, fun ι h H i d s R q => ?_, fun ι h H s => ?_⟩
  · obtain ⟨t, r⟩ := hT _ _ _ s
    obtain ⟨x0, q0, rfl⟩ := pairs_get 0 xs i d q
    obtain ⟨v, qv, rv⟩ := r.get q0
    refine ⟨go H i v t qv, fun x H' y => ?_⟩
    obtain ⟨p, z, rfl, hp, rfl, qz⟩ := yl H i x H' t y
    rw [qv] at qz; cases qz
    refine ⟨.new hp, R.new hp, ?_⟩
    rw [Nat.zero_add]
    exact .newT R hp (.cons (.int _) (.cons rv .nil))
  · obtain ⟨t, r⟩ := hT _ _ _ s
    rw [pairs_len, r.length]
    exact sp H t
theorem wk_enL {a : Addr} {vs : List V} {xs : List D} (f : FL ι H a vs) (r : RepL K ι H xs vs) : Wk K ι h H (pairsL 0 xs) (Ite K a) :=
  wk_pairs (fun H => SqL K H a vs) (fun ι h H => FL ι H a vs ∧ RepL K ι H xs vs) ⟨f, r⟩ (fun _ _ _ _ _ _ s x => ⟨s.1.pr x, s.2.pr x⟩) (fun _ _ _ s => ⟨.of s.1.1, s.2⟩)
    (fun H i x t q => ⟨vs, x, t, q⟩) (fun H i x H' t ⟨p, y, e, hp, e2, z⟩ => ⟨p, y, e, hp, e2, z vs t⟩) (fun H t => ⟨vs, t, Nat.le_refl _⟩)
theorem wk_enT {a : Addr} {vs : List V} {xs : List D} (f : FT K ι H a vs) (r : RepL K ι H xs vs) : Wk K ι h H (pairsL 0 xs) (Iet K a) :=
  wk_pairs (fun H => SqT K H a vs) (fun ι h H => FT K ι H a vs ∧ RepL K ι H xs vs) ⟨f, r⟩ (fun _ _ _ _ _ _ s x => ⟨s.1.pr x, s.2.pr x⟩) (fun _ _ _ s => ⟨s.1.sq, s.2⟩)
    (fun H i x t q => ⟨vs, x, t, q⟩) (fun H i x H' t ⟨p, y, e, hp, e2, z⟩ => ⟨p, y, e, hp, e2, z vs t⟩) (fun H t => ⟨vs, t, rfl⟩)
def srcE (x : D) : Option Src := match x with
  | .lst xs => some ⟨pairsL 0 xs, none⟩
  | .tup xs => some ⟨pairsL 0 xs, none⟩
  | _ => none
/-- enumerate(a) -/
def iEnu (a : Den) : DenI := fun e h => (a e h).bind fun x h => match srcE x with
  | some s => .ok s h
  | none => .bad
theorem i_enu {e : Expr} {p pos tpos : Pos} {elts : List Expr} {kk : Nat} (hg : Gl X "enumerate") (hm : X.mg "enumerate" = none) (ha : PE X e (rdE X.K da)) (hp : plain e = true) : PI X (.Tuple elts kk tpos) (.Call (.Name "enumerate" p) [e] [] pos) (rdI X.K (iEnu da)) := by
  refine (pi_enA hg hm (pa_cons ha pa_nil (star_of hp)) (star_of hp)).wkn fun σ H R ⟨ι, e, h, q, k⟩ => ⟨ι, e, h, q, (KI.bindE k).imp fun v H1 ⟨d, h1, ι1, x1, R1, r1, k1⟩ => ?_⟩
  cases d <;> try exact k1.elim
  · cases r1 with
    | tup f t => exact .inr ⟨_, _, rfl, f.sq, k1 ι1 H1 _ .refl R1 (wk_enT f t)⟩
  · cases r1 with
    | lst f t => exact .inl ⟨_, _, rfl, .of f.1, k1 ι1 H1 _ .refl R1 (wk_enL f t)⟩
/-! ### list(range(..)), tuple(range(..)) -/
def rgOk (a b : Int) : Bool := rngOk a && rngOk b && decide ((b - a).toNat ≤ 16777216)
theorem rgOk_ok {a b : Int} (h : rgOk a b = true) : RgOk a b := by
  simp only [rgOk, rngOk, Bool.and_eq_true, decide_eq_true_eq] at h
  exact ⟨by omega, by omega, by omega, by omega, by omega⟩
def mkS (t : Bool) (xs : List D) : D := if t = true then .tup xs else .lst xs
def rgD (t : Bool) (a b : Int) (h : Hs) : Res D := if rgOk a b = true then .ok (mkS t (rangeL a (b - a).toNat)) h else .bad
def dRg1 (t : Bool) (a : Den) : Den := fun e h => (a e h).bind fun x h => match asI x with
  | some n => rgD t 0 n h
  | none => .bad
def dRg2 (t : Bool) (a b : Den) : Den := fun e h => (a e h).bind fun x h => (b e h).bind fun y h => match asI x with
  | some m => (match asI y with
    | some n => rgD t m n h
    | none => .bad)
  | none => .bad
theorem rep_rg (a : Int) : ∀ (ks : List Nat), RepL K ι H (ks.map fun (i : Nat) => D.int (a + i)) (ks.map fun i => V.int (a + (i : Nat)))
  | [] => .nil
  | k :: ks => .cons (.int _) (rep_rg a ks)
theorem rep_rgV (a b : Int) : RepL K ι H (rangeL a (b - a).toNat) (rgV a b) := rep_rg a _
theorem rg_end {e : En} {σ : L2.St} {Q : VK} {t : Bool} {a b : Int} (R : Rl K ι e h σ H) (k : Kd K ι h H e σ (rgD t a b h) Q) : RgOk a b ∧ ∀ q, H q = none → Q (.ref q) (upd H q (if t = true then .tup (rgV a b) else .lst (rgV a b))) := by
  unfold rgD at k
  split at k
  · rename_i ok
    refine ⟨rgOk_ok ok, fun q hq => k.new R hq ?_⟩
    cases t
    · exact .newL R.rh hq (rep_rgV a b)
    · exact .newT R.rh hq (rep_rgV a b)
  · exact k.elim
theorem s_rg1 {a : Expr} {p p' pos pos' : Pos} (hc : X.calm = true) (t : Bool) {f : Str} (hf : f = if t = true then "tuple" else "list") (gf : Gl X f) (mf : X.mg f = none) (hg : Gl X "range") (hm : X.mg "range" = none) (ha : PE X a (rdE X.K da)) (pa : plain a = true) :
    PE X (.Call (.Name f p) [.Call (.Name "range" p') [a] [] pos'] [] pos) (rdE X.K (dRg1 t da)) := by
  have fin : ∀ σ H Q, rdE X.K (dRg1 t da) σ H Q → tRg1 (rdE X.K da) σ H fun a b H1 => RgOk a b ∧ ∀ q, H1 q = none → Q (.ref q) (upd H1 q (if t = true then .tup (rgV a b) else .lst (rgV a b))) := fun σ H Q ⟨ι, e, h, R, k⟩ =>
    ⟨ι, e, h, R, (Kg.bind k).imp fun v H1 ⟨d, h1, ι1, n1⟩ => by
      have k1 := n1.k
      have r1 := n1.rr
      cases d <;> try exact k1.elim
      cases r1
      exact ⟨_, rfl, rg_end n1.R k1⟩⟩
  cases t
  · cases hf
    exact (pe_listRg hc gf mf (prg_1 hg hm ha (star_of pa))).wkn fun σ H Q k => fin σ H Q k
  · cases hf
    exact (pe_tupRg hc gf mf (prg_1 hg hm ha (star_of pa))).wkn fun σ H Q k => fin σ H Q k
theorem s_rg2 {a b : Expr} {db : Den} {p p' pos pos' : Pos} (hc : X.calm = true) (t : Bool) {f : Str} (hf : f = if t = true then "tuple" else "list") (gf : Gl X f) (mf : X.mg f = none) (hg : Gl X "range") (hm : X.mg "range" = none) (ha : PE X a (rdE X.K da)) (pa : plain a = true) (hb : PE X b (rdE X.K db)) (pb : plain b = true) :
    PE X (.Call (.Name f p) [.Call (.Name "range" p') [a, b] [] pos'] [] pos) (rdE X.K (dRg2 t da db)) := by
  have fin : ∀ σ H Q, rdE X.K (dRg2 t da db) σ H Q → tRg2 (rdE X.K da) (rdE X.K db) σ H fun a b H1 => RgOk a b ∧ ∀ q, H1 q = none → Q (.ref q) (upd H1 q (if t = true then .tup (rgV a b) else .lst (rgV a b))) := fun σ H Q ⟨ι, e, h, R, k⟩ =>
    ⟨ι, e, h, R, (Kg.bind k).imp fun v H1 ⟨d, h1, ι1, n1⟩ => ⟨ι1, e, h1, n1.R, (Kg.bind n1.k).imp fun w H2 ⟨d2, h2, ι2, n2⟩ => by
      have k1 := n2.k
      have r1 := n1.rr
      have r2 := n2.rr
      cases d <;> try exact k1.elim
      cases d2 <;> try exact k1.elim
      cases r1
      cases r2
      exact ⟨_, _, rfl, rfl, rg_end n2.R k1⟩⟩⟩
  cases t
  · cases hf
    exact (pe_listRg hc gf mf (prg_2 hg hm ha hb (star_of pa) (star_of pb) (by rw [star_of pb]; rfl))).wkn fun σ H Q k => fin σ H Q k
  · cases hf
    exact (pe_tupRg hc gf mf (prg_2 hg hm ha hb (star_of pa) (star_of pb) (by rw [star_of pb]; rfl))).wkn fun σ H Q k => fin σ H Q k
end
end Ev
/-! EvY: classes: attributes, properties, methods, new instances. -/
namespace Ev
open PySem PySem.Spec L2 PyProof.Rows
variable [TheW]

/-! ### defs called by position -/
def GR (P : Program) (w : World) (K : PySem.W.Frag) (mg : Str → Option Value) (base : Heap) (k : Nat) (f : Addr) (sp : Sp) : Prop :=
  ∀ (A : Around) (outer : List Env) (s : Shared) (H : Hp) (us : List Value) (vs : List V) (Q : VK) (E : XK), Room k A → A.guards = some [] → Env0 P w K mg base A outer s H → Vals vs us → sp vs H Q E →
    codeAny (model P w) A (.call (.ref f) ⟨us, []⟩) (CR CX0 outer P w H s Q E) s
def spA (K : PySem.W.Frag) (ρ : List D → Hs → Res D) : Sp := fun vs H Q _ => ∃ ι h ds, RH K ι h H ∧ RepL K ι H ds vs ∧ KC K ι h H (ρ ds h) Q
/-- n arguments -/
def ar (n : Nat) (ρ : List D → Hs → Res D) : List D → Hs → Res D := fun ds h => if ds.length = n then ρ ds h else .bad
/-- n arguments and what is left over as a tuple -/
def arV (n : Nat) (ρ : List D → Hs → Res D) : List D → Hs → Res D := fun ds h => if n ≤ ds.length then if ds.length ≤ sizeLine then ρ (ds.take n ++ [.tup (ds.drop n)]) h else .bad else .bad
section
variable {P : Program} {w : World} {K : PySem.W.Frag} {mg : Str → Option Value} {base : Heap} {k n : Nat} {f : Addr} {fd : FuncData} {ps : List Str} {ρ : List D → Hs → Res D}
theorem GR.up {j : Nat} {sp : Sp} (F : GR P w K mg base j f sp) (h : j ≤ k) : GR P w K mg base k f sp := fun A outer s H us vs Q E hr => F A outer s H us vs Q E (hr.mono h)
theorem GR.of (F : GFn P w K mg base k f fd ps (spR K ρ n)) (b : Binds K fd ps []) (hn : ps.length = n) : GR P w K mg base k f (spA K (ar n ρ)) := by
  intro A outer s H us vs Q E hr hg e0 r ⟨ι, h, ds, R, rp, kk⟩
  unfold ar at kk
  split at kk
  · rename_i hl
    have KX : K.In s.heap := e0.mod.kin.keeps fun b o e => (e0.bs b o e).1
    have lu : us.length = ps.length := by rw [hn, ← r.length, ← rp.length]; exact hl
    have bt := b s us KX (by rw [List.append_nil]; exact lu)
    rw [List.append_nil] at bt
    exact F.run A outer s H ⟨us, []⟩ us vs Q E hr hg e0 bt r ⟨by rw [← rp.length]; exact hl, ι, h, ds, R, rp, kk⟩
  · exact kk.elim
end
section
variable {X : Cx} {pins : List (Addr × Obj)} {σ : L2.St} {H : Hp} {s : Shared} {k : Nat} {f C : Addr} {sp : Sp} {Q : VK} {us : List Value} {vs : List V}
theorem runR (F : GR X.prog X.w X.K X.mg X.base k f sp) (hr : Room k X.A) (hgd : X.A.guards = some []) (I : Inv X pins σ H s) (r : Vals vs us) (h : sp vs H Q E0) :
    codeAny (model X.prog X.w) X.A (.call (.ref f) ⟨us, []⟩) (fun r s' => match r with | .ok (.ret v) => EP X pins σ Q v s' | .ok _ => False | .error e => X.xe e s') s := by
  refine codeAny_mono (F X.A X.stack s H us vs Q E0 hr hgd I.env0 r h) fun r s' hq => ?_
  match r, hq with
  | .ok (.ret u), hq => exact I.after hq
theorem make_guards {A : Around} {C : Addr} {us : List Value} {kw : List (Str × Value)} : (A.under (.builtin "type.__call__" ⟨.ref C :: us, kw⟩)).guards = A.guards := by
  first | rfl | simp [Around.under, Code.guards, Code.isGuard, guardIds, pushGuards]
theorem runMake {kw : List (Str × Value)} (M : Mk X.K C f) (F : GR X.prog X.w X.K X.mg X.base k f sp) (hr : Room (k + 1) X.A) (hgd : X.A.guards = some []) (I : Inv X pins σ H s) (r : Vals vs us)
    (h : ∀ x dx, H x = Option.none → H dx = Option.none → dx ≠ x → sp (V.ref x :: vs) (upd (upd H dx (.own x)) x (.ins C dx [])) (fun v H2 => v = .non ∧ Q (.ref x) H2) E0) :
    wpAny (model X.prog X.w) X.A (call (.ref C) us) (EP X pins σ Q) X.xe s := by
  have hq := h (s.heap.objs.size + 1) s.heap.objs.size (I.hok.fresh (Nat.le_succ _)) (I.hok.fresh (Nat.le_refl _)) (Nat.ne_of_lt (Nat.lt_succ_self _))
  have I2 := Inv.made (C := C) I
  have r2 : Vals (V.ref (s.heap.objs.size + 1) :: vs) (Value.ref (s.heap.objs.size + 1) :: us) := .cons rfl r
  refine wpAny_call (make_map (f := f) I.kIn M.makes M.init (beq_iff_eq.mp M.fn) (codeAny_mono (F _ X.stack _ _ (Value.ref (s.heap.objs.size + 1) :: us) _ _ E0 (hr.make C us []) (by rw [make_guards]; exact hgd) (I2.env0.make C us []) r2 hq) fun r s' hq' => ?_))
  match r, hq' with
  | .ok (.ret u), hq' =>
    obtain ⟨v, H', I3, rv, ev, q3⟩ := I2.after hq'
    subst ev
    exact ⟨rv, ⟨V.ref (s.heap.objs.size + 1), H', I3, rfl, q3⟩⟩
end

/-! ### a def with a star -/
section
variable {P : Program} {w : World} {K : PySem.W.Frag} {mg : Str → Option Value} {base : Heap} {k : Nat} {f : Addr} {fd : FuncData} {x qual : Str} {params : Arguments} {body : List Stmt} {scope : Scope} {kws : List (Str × V)} {N ps : List Str} {pv : Str} {sp : Sp}
theorem vals_split' : ∀ {ws rest : List V} {us : List Value}, Vals (ws ++ rest) us → ∃ u1 u2, us = u1 ++ u2 ∧ Vals ws u1 ∧ Vals rest u2
  | [], _, us, r => ⟨[], us, rfl, .nil, r⟩
  | _ :: ws, rest, _, .cons a r => by
    obtain ⟨u1, u2, e, r1, r2⟩ := vals_split' (ws := ws) (rest := rest) r
    exact ⟨_ :: u1, u2, by rw [e]; rfl, .cons a r1, r2⟩
theorem starG (F : FunD K x qual params body scope [] kws f fd) (S : FnScope N (ps ++ [pv]) scope)
    (hb : ∀ us rest : List Value, us.length = ps.length → bindArgs fd ⟨us ++ rest, []⟩ = (newTuple rest >>= fun t => pure (ps.zip us ++ [(pv, t)])))
    (hbody : ∀ (cdv : Value) (A : Around) (outer : List Env) (s : Shared) (H : Hp) (vs : List V) (Q : VK) (E : XK), Room k (A.deeper (envOfC qual scope s.heap.objs.size f cdv)) → A.guards = some [] → sp vs H Q E →
      ∃ t, PSs (cxOf CX0 P w K mg base N qual scope f cdv A outer s H E).nox body t ∧ t { nx := fun _ H' => Q .non H', rt := Q } (L2.start N vs) H) :
    GR P w K mg base (k + 1) f (fun vs H Q E => ∃ ws rest, vs = ws ++ rest ∧ ws.length = ps.length ∧ rest.length ≤ sizeLine ∧ ∀ p, H p = Option.none → sp (ws ++ [V.ref p]) (upd H p (.tup rest)) Q E) := by
  obtain ⟨oc, od, dV, kV, doc, pm, an, cdv, ct, osl, rfl, lk, hcd, _, _⟩ := F.ex
  intro A outer s H us vs Q E hr hg e0 r hsp
  obtain ⟨ws, rest, ev, hl, hz, hq⟩ := hsp
  subst ev
  obtain ⟨u1, u2, eu, r1, r2⟩ := vals_split' r
  subst eu
  have hn : H s.heap.objs.size = Option.none := e0.hok.fresh (Nat.le_refl _)
  have hl1 : u1.length = ps.length := by rw [← r1.length]; exact hl
  have hl2 : u2.length ≤ sizeLine := by rw [← r2.length]; exact hz
  refine StX.run_bnd (CX := CX0) lk hcd S hr e0 (G := fun xs H2 => ∃ p, H p = Option.none ∧ xs = ws ++ [V.ref p] ∧ H2 = upd H p (.tup rest)) (fun A' Ex Q' h => ?_) fun s2 H2 xs ⟨p, hp, ex, eH⟩ hr' => ?_
  · rw [hb u1 u2 hl1]
    refine wpAny_bind (wpAny_newTuple (wpAny_pure ?_) hl2)
    have new : ObjOk P w (upd H s.heap.objs.size (.tup rest)) (s.heap.push ({ cls := .type "tuple", data := .seq u2.toArray } : Obj)) s.heap.objs.size (.tup rest) := ⟨hz, u2, r2, ⟨_, Heap.get?_push_size _ rfl, rfl, _, rfl⟩⟩
    have un := StX.un_laid (fs := frs outer) (s := s) (o := ({ cls := .type "tuple", data := .seq u2.toArray } : Obj)) (u := .tup rest) hn
    have z := h _ _ (ws ++ [V.ref s.heap.objs.size]) (u1 ++ [Value.ref s.heap.objs.size]) (StX.env0_laid e0 new) un rfl (fun e s' q => q) (r1.append (.cons rfl .nil))
      (by rw [List.length_append, List.length_append, hl] <;> rfl) ⟨_, hn, rfl, rfl⟩
    rw [List.zip_append hl1.symm] at z
    exact z
  · subst ex eH
    obtain ⟨t, ht, hq2⟩ := hbody cdv A outer s2 _ _ Q E hr' hg (hq p hp)
    exact ⟨t, ht.nox, hq2⟩
end

/-! ### classes of the text -/
structure ClsF (K : PySem.W.Frag) (c : Str) (C : Addr) : Prop where
  nm : nmOf K C = some c
  uq : ∀ C', nmOf K C' = some c → C' = C
  cl : Cls K C
  ne : PySem.W.findIn K (.ref C) "__ne__" = some (some (.builtin "object.__ne__"))
/-- the class and the attributes of an instance -/
def insAt (h : Hs) (x : D) : Option (Str × List Str × List D) := match x with
  | .ins c ks vs => some (c, ks, vs)
  | .ref m => match cellAt h m with
    | some (.ins c ks vs) => some (c, ks, vs)
    | _ => none
  | _ => none
section
variable {K : PySem.W.Frag} {ι ι' : Io} {h h' : Hs} {H H' : Hp} {e : En} {σ : L2.St}
theorem insAt_rep (R : RH K ι h H) {x : D} {v : V} {c : Str} {ks : List Str} {ds : List D} (q : insAt h x = some (c, ks, ds)) (r : Rep K ι H x v) : ∃ a C dx fs, v = .ref a ∧ H a = some (.ins C dx fs) ∧ nmOf K C = some c ∧ ks = fs.map Prod.fst ∧ RepL K ι H ds (fs.map Prod.snd) := by
  unfold insAt at q
  cases x <;> try cases q
  · rename_i m
    dsimp only at q
    split at q
    · rename_i c' ks' vs' q1
      cases q
      obtain ⟨a, rfl, _, ⟨C, dx, fs, ea, nm, ek, t⟩, _⟩ := cellAt_rep R q1 r
      exact ⟨a, C, dx, fs, rfl, ea, nm, ek, t⟩
    · cases q
  · cases r with
    | ins f nm ek t => exact ⟨_, _, _, _, rfl, f.1, nm, ek, t⟩
def fldD : List Str → List D → Str → Option D
  | k :: ks, d :: ds, f => if k = f then some d else fldD ks ds f
  | _, _, _ => none
theorem fldD_some : ∀ {fs : List (Str × V)} {ds : List D} {f : Str} {d : D}, RepL K ι H ds (fs.map Prod.snd) → fldD (fs.map Prod.fst) ds f = some d → ∃ v, fs.lookup f = some v ∧ Rep K ι H d v
  | [], ds, f, d, t, q => by cases ds <;> cases q
  | (g, v) :: fs, [], f, d, t, q => by cases q
  | (g, v) :: fs, d' :: ds, f, d, t, q => by
    cases t with
    | cons r t =>
      change (if g = f then some d' else fldD (fs.map Prod.fst) ds f) = some d at q
      rw [List.lookup_cons]
      split at q
      · rename_i e
        cases q
        subst e
        rw [beq_self_eq_true]
        exact ⟨v, rfl, r⟩
      · rename_i ne
        rw [show (f == g) = false from beq_eq_false_iff_ne.mpr (Ne.symm ne)]
        exact fldD_some t q
theorem fldD_none : ∀ {fs : List (Str × V)} {ds : List D} {f : Str}, RepL K ι H ds (fs.map Prod.snd) → fldD (fs.map Prod.fst) ds f = none → fs.lookup f = none
  | [], ds, f, t, q => rfl
  | (g, v) :: fs, [], f, t, q => by cases t
  | (g, v) :: fs, d' :: ds, f, t, q => by
    cases t with
    | cons r t =>
      change (if g = f then some d' else fldD (fs.map Prod.fst) ds f) = none at q
      rw [List.lookup_cons]
      split at q
      · cases q
      · rename_i ne
        rw [show (f == g) = false from beq_eq_false_iff_ne.mpr (Ne.symm ne)]
        exact fldD_none t q
/-- f = d among the attributes -/
def putK : List Str → Str → List Str
  | [], f => [f]
  | k :: ks, f => if k = f then k :: ks else k :: putK ks f
def putV : List Str → List D → Str → D → List D
  | k :: ks, d :: ds, f, x => if k = f then x :: ds else d :: putV ks ds f x
  | _, _, _, x => [x]
theorem put_keys (f : Str) (y : V) : ∀ fs : List (Str × V), (putF f y fs).map Prod.fst = putK (fs.map Prod.fst) f
  | [] => rfl
  | (g, v) :: fs => by
    unfold putF
    show List.map Prod.fst (if g = f then (g, y) :: fs else (g, v) :: putF f y fs) = (if g = f then g :: fs.map Prod.fst else g :: putK (fs.map Prod.fst) f)
    split
    · rfl
    · rw [List.map_cons, put_keys f y fs]
theorem put_vals {f : Str} {y : V} {d : D} (rd : Rep K ι H d y) : ∀ {fs : List (Str × V)} {ds : List D}, RepL K ι H ds (fs.map Prod.snd) → RepL K ι H (putV (fs.map Prod.fst) ds f d) ((putF f y fs).map Prod.snd)
  | [], _, .nil => .cons rd .nil
  | (g, v) :: fs, _, .cons r t => by
    unfold putF
    rename_i ds
    show RepL K ι H (if g = f then d :: _ else _ :: putV (fs.map Prod.fst) _ f d) (List.map Prod.snd (if g = f then (g, y) :: fs else (g, v) :: putF f y fs))
    split
    · exact .cons rd t
    · exact .cons r (put_vals rd t)
theorem putV_und {n : Nat} {f : Str} {d : D} (hd : d.und n = true) : ∀ {ks : List Str} {ds : List D}, D.undAll n ds = true → D.undAll n (putV ks ds f d) = true
  | [], [], _ => by show (d.und n && true) = true; rw [hd]; rfl
  | [], _ :: _, _ => by show (d.und n && true) = true; rw [hd]; rfl
  | _ :: _, [], _ => by show (d.und n && true) = true; rw [hd]; rfl
  | k :: ks, x :: ds, u => by
    unfold D.undAll at u
    rw [Bool.and_eq_true] at u
    show D.undAll n (if k = f then d :: ds else x :: putV ks ds f d) = true
    split
    · unfold D.undAll; rw [hd, u.2]; rfl
    · unfold D.undAll; rw [u.1, putV_und hd u.2]; rfl
end

/-! ### e.f -/
/-- e.f: an attribute of instances of the classes fl, a property of others -/
def dAtt (f : Str) (fl : List Str) (pr : List (Str × (List D → Hs → Res D))) (a : Den) : Den := fun e h => (a e h).bind fun x h => match insAt h x with
  | none => .bad
  | some (c, ks, vs) => if fl.contains c = true then .of (fldD ks vs f) h else match pr.lookup c with
    | some ρ => ar 1 ρ [x] h
    | none => .bad
/-- what of the text this leans on -/
structure AttOk (X : Cx) (f : Str) (fl : List Str) (pr : List (Str × (List D → Hs → Res D))) : Prop where
  fl : ∀ c ∈ fl, ∃ C, ClsF X.K c C ∧ NoAttr X.K C f
  pr : ∀ c ρ, (c, ρ) ∈ pr → ∃ C p g k, ClsF X.K c C ∧ PropOf X.K C f p g ∧ GR X.prog X.w X.K X.mg X.base k g (spA X.K (ar 1 ρ)) ∧ Room (k + 1) X.A
theorem lookMem {α : Type} {x : Str} {a : α} : ∀ {l : List (Str × α)}, l.lookup x = some a → (x, a) ∈ l
  | [], h => by cases h
  | (y, b) :: l, h => by
    rw [List.lookup_cons] at h
    split at h
    · rename_i e
      cases h
      rw [eq_of_beq e]
      exact List.mem_cons_self ..
    · exact List.mem_cons_of_mem _ (lookMem h)
section
variable {X : Cx} {a o : Expr} {pos : Pos} {da dO : Den} {f : Str} {fl : List Str} {pr : List (Str × (List D → Hs → Res D))}
theorem getpropG {pins : List (Addr × Obj)} {σ : L2.St} {H : Hp} {s : Shared} {Q : VK} {b : Bool} {E' : Value → Shared → Prop} {a C dx p g : Addr} {fs : List (Str × V)} {k : Nat} {sp : Sp} (I : Inv X pins σ H s) (ea : H a = some (.ins C dx fs)) (c : Cls X.K C) (hp : PropOf X.K C f p g)
    (F : GR X.prog X.w X.K X.mg X.base k g sp) (hr : Room (k + 1) X.A) (hgd : X.A.guards = some []) (h : sp [.ref a] H Q E0) : wpAny (model X.prog X.w) X.A (getAttr (.ref a) f b) (EP X pins σ Q) E' s := by
  obtain ⟨mA, O, _, _, _, _⟩ := ins_get I.hok ea
  obtain ⟨od, J, _⟩ := O.look
  obtain ⟨rest, hrec⟩ := hp.rec_
  have I1 := I.tok (s.toks + 1)
  have hc : (PySem.W.clsIn X.K C).isSome = true := by
    obtain ⟨cd, hc, _⟩ := PySem.W.any_some c.hd
    rw [hc]
    rfl
  refine PySem.W.get_bind I.kIn J (PySem.W.plainGet_of (c.get f)).1 (PySem.W.findObj_data hc hp.at_ hp.get hp.tak) (PySem.W.plainGet_of (c.get f)).2 (wpAny_call (PySem.W.prop_get (s := { s with toks := s.toks + 1 }) I.kIn hrec ?_))
  refine codeAny_mono (F X.A.in1 X.stack { s with toks := s.toks + 1 } H [.ref a] [.ref a] Q E0 hr.in1 hgd I1.env0.in1 (.cons rfl .nil) h) fun r s' hq => ?_
  match r, hq with
  | .ok (.ret u), hq =>
    obtain ⟨v, H', I3, rv, q3⟩ := I1.after hq
    show wpAny _ _ (handedOut u) _ _ _
    rw [PySem.W.handedOut_of (handed_of rv)]
    exact wpAny_pure ⟨v, H', I3, rv, q3⟩
theorem s_att (hgd : X.A.guards = some []) (ok : AttOk X f fl pr) (ha : PE X a (rdE X.K da)) (no : nosuper a = true) : PE X (.Attribute a f pos) (rdE X.K (dAtt f fl pr da)) := by
  refine ⟨fun pins s σ H Q I h => ?_⟩
  obtain ⟨ι, e, h, R, k⟩ := h
  refine attr_of (abase no) (thn (ha.run pins s σ H (fun v H1 => ∃ x h1 ι1, Kn (Rep X.K) (Rep X.K) X.K ι h H e σ (da e h) (fun x h => match insAt h x with
      | none => .bad
      | some (c, ks, vs) => if fl.contains c = true then .of (fldD ks vs f) h else match pr.lookup c with
        | some ρ => ar 1 ρ [x] h
        | none => .bad) Q v H1 x h1 ι1) I ⟨ι, e, h, R, Kg.bind k⟩) fun u s1 ⟨v, H1, I1, rv, x, h1, ι1, n1⟩ => ?_)
  have k1 := n1.k
  have R1 := n1.R
  have r1 := n1.rr
  cases q : insAt h1 x with
  | none => rw [q] at k1; exact k1.elim
  | some z =>
    obtain ⟨c, ks, ds⟩ := z
    rw [q] at k1
    dsimp only at k1
    obtain ⟨p, C, dx, fs, rfl, ea, nm, ek, t⟩ := insAt_rep R1.rh q r1
    obtain rfl : u = Value.ref p := rv
    split at k1
    · rename_i hc
      obtain ⟨C1, cf, na⟩ := ok.fl c (by simpa using hc)
      obtain rfl := cf.uq C nm
      obtain ⟨d, q2, k2⟩ := Kd.of_some k1
      subst ek
      obtain ⟨y, ly, ry⟩ := fldD_some t q2
      exact getattr_ok I1 ea cf.cl na ly fun u' s2 I2 ru => ⟨y, H1, I2, ru, k2.here R1 ry⟩
    · split at k1
      · rename_i ρ hp
        obtain ⟨C1, pp, g, kk, cf, po, F, hr⟩ := ok.pr c ρ (lookMem hp)
        obtain rfl := cf.uq C nm
        refine getpropG I1 ea cf.cl po F hr hgd ⟨ι1, h1, [x], R1.rh, .cons r1 .nil, ?_⟩
        cases qq : ar 1 ρ [x] h1 with
        | err _ _ => rw [qq] at k1; exact k1
        | bad => rw [qq] at k1; exact k1
        | ok d h2 => rw [qq] at k1; exact fun ι' H' v y R' rv => k1 ι' H' v y ⟨R', R1.re.ext y⟩ rv
      · exact k1.elim

/-! ### o.f = d -/
def setF (fl : List Str) (x : D) (f : Str) (d : D) (h : Hs) : Option Hs := match x with
  | .ref m => match h[m]? with
    | some (.live (.ins c ks vs)) => if fl.contains c = true then if ks.length < 1000 then if d.und m = true then some (h.set m (.live (.ins c (putK ks f) (putV ks vs f d)))) else none else none else none
    | _ => none
  | _ => none
def gAt (f : Str) (fl : List Str) (o : Den) : DenG := fun d e h => (o e h).bind fun x h => match setF fl x f d h with
  | none => .bad
  | some h => .ok e h
theorem g_att (fo : ∀ c ∈ fl, ∃ C, ClsF X.K c C ∧ NoAttr X.K C f) (ho : PE X o (rdE X.K dO))
    (ha : ∀ v, assign (.Attribute o f pos) X.env v = (do let ov ← holding [v] (eval o X.env); standAt pos.atName; holding [v, ov] (setAttr ov f v); release [v, ov] [])) : PG X (.Attribute o f pos) (rdG X.K (gAt f fl dO)) := by
  refine ⟨fun pins s σ H v u Q I r h => ?_⟩
  obtain ⟨ι, e, h, d, R, rd, k⟩ := h
  rw [ha]
  refine wpAny_bind (wpAny_holding (thn (ho.run pins s σ H _ I ⟨ι, e, h, R, KG.bindE k⟩) fun ov s1 ⟨w, H1, I1, rw_, x, h1, ι1, x1, R1, r1, k1⟩ => ?_))
  refine wpAny_bind (wpAny_standAt (wpAny_bind (wpAny_holding ?_)))
  have rd1 := rd.ext x1
  unfold setF at k1
  cases x <;> try exact k1.elim
  rename_i m
  dsimp only at k1
  split at k1
  · exact k1.elim
  · rename_i h2 q
    split at q
    · rename_i c ks vs hm
      split at q
      · rename_i hc
        split at q
        · rename_i hl
          split at q
          · rename_i hu
            cases q
            obtain ⟨a, qa, ⟨C, dx, fs, ea, nm, ek, t⟩, un⟩ := R1.rh.cell m _ (.inl hm)
            obtain ⟨C1, cf, na⟩ := fo c (by simpa using hc)
            obtain rfl := cf.uq C nm
            have ew : w = .ref a := by
              cases r1 with
              | ref z => rw [qa] at z; cases z; rfl
              | dead z => rw [qa] at z; cases z
            subst ew
            obtain rfl : ov = Value.ref a := rw_
            subst ek
            refine setattr_ok I1 ea cf.cl na (by simpa using hl) r fun s2 I2 => wpAny_release ⟨σ, _, I2, ?_⟩
            have ex := cell_extO (o₁ := .ins c (putK (fs.map Prod.fst) f) (putV (fs.map Prod.fst) vs f d)) (u₁ := .ins C dx (putF f v fs)) R1.rh hm qa
            refine k1 ι1 σ _ ex ⟨cell_rhO R1.rh hm qa ⟨C, dx, putF f v fs, upd_same, nm, (put_keys f v fs).symm, (put_vals rd1 t).ext ex⟩ ?_, R1.re.ext ex⟩
            exact putV_und hu un
          · cases q
        · cases q
      · cases q
    · cases q
end
end Ev
/-! EvZ: methods, new instances, class methods, stars, isinstance of own classes. -/
namespace Ev
open PySem PySem.Spec L2 PyProof.Rows
variable [TheW]

/-! ### o.m(..) -/
def dMet (m : Str) (tb : List (Str × Nat × (List D → Hs → Res D))) (o : Den) (a : DenA) : Den := fun e h => (o e h).bind fun x h => match insAt h x with
  | none => .bad
  | some (c, ks, vs) => match tb.lookup c with
    | none => .bad
    | some (n, ρ) => if (fldD ks vs m).isNone = true then (a e h).bind fun ds h => ar n ρ (x :: ds) h else .bad
def MetOk (X : Cx) (m : Str) (tb : List (Str × Nat × (List D → Hs → Res D))) : Prop := ∀ c n ρ, (c, n, ρ) ∈ tb → ∃ C g k, ClsF X.K c C ∧ Meth X.K C m g ∧ GR X.prog X.w X.K X.mg X.base k g (spA X.K (ar n ρ)) ∧ Room k X.A
section
variable {X : Cx} {a o e₁ : Expr} {es : List Expr} {pos apos p : Pos} {da dO : Den} {dA : DenA} {m x : Str}
theorem kc_of {K : PySem.W.Frag} {ι : Io} {h : Hs} {H : Hp} {e : En} {σ : L2.St} {r : Res D} {Q : VK} (E : RE K ι e σ H) (k : Kd K ι h H e σ r Q) : KC K ι h H r Q := by
  cases r with
  | err _ _ => exact k
  | bad => exact k
  | ok d h2 => exact fun ι' H' v y R' rv => k ι' H' v y ⟨R', E.ext y⟩ rv
def okMeth (o : Expr) (args : List Expr) (apos pos : Pos) : Bool := nosuper o && args.all plain && decide (args.length < 29) && (apos.endLine == pos.line)
theorem plain_form {env : Env} {pos : Pos} : ∀ {es : List Expr}, es.all plain = true → (backTo pos (starEach es env)).all (!·.1) = true
  | [], _ => rfl
  | e :: es, h => by
    rw [List.all_cons, Bool.and_eq_true] at h
    rw [star_of h.1]
    show (List.all (_ :: backTo pos (starEach es env)) _) = true
    rw [List.all_cons, plain_form h.2]
    rfl
theorem meth_eq {env : Env} {args : List Expr} (h : okMeth o args apos pos = true) : eval (.Call (.Attribute o m apos) args [] pos) env = (do
      let ov ← eval o env
      standAt apos.atName
      let (f, first) ← holding [ov] (getMethod ov m (do return (← importBound o env).getD true))
      callWith pos f first (backTo pos (starEach args env)) (backToKw pos (keywordEach [] env))) := by
  unfold okMeth at h
  rw [Bool.and_eq_true, Bool.and_eq_true, Bool.and_eq_true] at h
  obtain ⟨⟨⟨h1, h2⟩, h3⟩, h4⟩ := h
  have h3 := of_decide_eq_true h3
  have hform : methodCallForm (args.length + ([] : List Keyword).length) (backTo pos (starEach args env)) (backToKw pos (keywordEach [] env)) = true := by
    unfold methodCallForm
    rw [plain_form h2]
    show (true && true && decide (args.length + 0 + 0 < 30)) = true
    rw [decide_eq_true (show args.length + 0 + 0 < 30 by omega)]; rfl
  have hpos : methodCallPos true o env apos pos = pure pos := by
    unfold methodCallPos
    rw [h4]; rfl
  rw [arm_eval_Call, abase h1]
  unfold methodCall
  rw [hform, hpos]
  rfl
theorem fdn {K : PySem.W.Frag} {ι : Io} {H : Hp} {fs : List (Str × V)} {ds : List D} {f : Str} (t : RepL K ι H ds (fs.map Prod.snd)) (h : (fldD (fs.map Prod.fst) ds f).isNone = true) : fs.lookup f = none := fldD_none t (by
  cases z : fldD (fs.map Prod.fst) ds f with
  | none => rfl
  | some d => rw [z] at h; cases h)
theorem s_met {tb : List (Str × Nat × (List D → Hs → Res D))} (hgd : X.A.guards = some []) (ok : MetOk X m tb) (ho : PE X o (rdE X.K dO)) (ha : PA X es (rdA X.K dA)) (h0 : es = [] → dA = aNil) (hf : okMeth o es apos pos = true) : PE X (.Call (.Attribute o m apos) es [] pos) (rdE X.K (dMet m tb dO dA)) := by
  have hp : es.all plain = true := by
    unfold okMeth at hf
    rw [Bool.and_eq_true, Bool.and_eq_true, Bool.and_eq_true] at hf
    exact hf.1.1.2
  refine ⟨fun pins s σ H Q I h => ?_⟩
  obtain ⟨ι, e, h, R, k⟩ := h
  refine PySem.W.methodCall_KW (thn (ho.run pins s σ H _ I ⟨ι, e, h, R, Kg.bind (RR' := Rep X.K) k⟩) fun u s1 ⟨v, H1, I1, rv, x, h1, ι1, n1⟩ => ?_) (meth_eq hf)
  have k1 := n1.k
  have R1 := n1.R
  have r1 := n1.rr
  cases q : insAt h1 x with
  | none => rw [q] at k1; exact k1.elim
  | some z =>
  obtain ⟨c, ks, ds⟩ := z
  rw [q] at k1
  dsimp only at k1
  obtain ⟨p, C, dx, fs, rfl, ea, nm, ek, t⟩ := insAt_rep R1.rh q r1
  obtain rfl : u = Value.ref p := rv
  cases q2 : tb.lookup c with
  | none => rw [q2] at k1; exact k1.elim
  | some nr =>
  obtain ⟨n, ρ⟩ := nr
  rw [q2] at k1
  dsimp only at k1
  obtain ⟨C1, g, kk, cf, me, F, hr⟩ := ok c n ρ (lookMem q2)
  obtain rfl := cf.uq C nm
  split at k1
  · rename_i hn
    subst ek
    have ln := fdn t hn
    refine getmeth_ok I1 ea cf.cl me ln ?_
    cases es with
    | nil =>
      refine PySem.W.callWith_K0 (first := [.ref p]) I1.kIn me.kp ?_
      rw [h0 rfl] at k1
      have k1 : Kd X.K ι1 h1 H1 e σ (ar n ρ [x] h1) Q := k1
      exact wpAny_call (runR (us := [.ref p]) (vs := [.ref p]) F hr hgd I1 (.cons rfl .nil) ⟨ι1, h1, [x], R1.rh, .cons r1 .nil, kc_of R1.re k1⟩)
    | cons e₁ es =>
      rw [List.all_cons, Bool.and_eq_true] at hp
      refine PySem.W.callWith_K (first := [.ref p]) (h₀ := X.base) I.ok.mod.kin me.kp (thn (ha.run pos pins s1 σ H1 _ I1 ⟨ι1, e, h1, R1, Kg.bind (RR' := Rep X.K) k1⟩) fun us s2 ⟨vs, H2, I2, rs, ds2, h2, ι2, n2⟩ => ⟨I2.kIn, ?_⟩) (star_of hp.1) (star_all hp.2)
      exact wpAny_call (runR (us := .ref p :: us) (vs := .ref p :: vs) F hr hgd I2 (.cons rfl rs) ⟨ι2, h2, x :: ds2, n2.R.rh, .cons (r1.ext n2.x) n2.rr, kc_of n2.R.re n2.k⟩)
  · exact k1.elim

/-! ### C(..) -/
def dMk (c : Str) (ρ : List D → Hs → Res D) (a : DenA) : Den := fun e h => (a e h).bind fun ds h => match ρ (.ref h.length :: ds) (h ++ [.live (.ins c [] [])]) with
  | .ok .non h' => .ok (.ref h.length) h'
  | _ => .bad
structure MkOk (X : Cx) (c : Str) (ρ : List D → Hs → Res D) : Prop where
  ex : ∃ C g k, ClsF X.K c C ∧ X.mg c = some (.ref C) ∧ Mk X.K C g ∧ GR X.prog X.w X.K X.mg X.base k g (spA X.K ρ) ∧ Room (k + 1) X.A
theorem mk_sp {K : PySem.W.Frag} {ι : Io} {h : Hs} {H : Hp} {e : En} {σ : L2.St} {C : Addr} {c : Str} {ρ : List D → Hs → Res D} {ds : List D} {vs : List V} {Q : VK} (nm : nmOf K C = some c) (R : Rl K ι e h σ H) (rs : RepL K ι H ds vs)
    (k : Kd K ι h H e σ (match ρ (.ref h.length :: ds) (h ++ [.live (.ins c [] [])]) with
      | .ok .non h' => .ok (.ref h.length) h'
      | _ => .bad) Q) : ∀ x dx, H x = Option.none → H dx = Option.none → dx ≠ x → spA K ρ (V.ref x :: vs) (upd (upd H dx (.own x)) x (.ins C dx [])) (fun v H2 => v = .non ∧ Q (.ref x) H2) E0 := by
  intro x dx hx hd ne
  have R1 := R.new (u := .own x) hd
  have x1 : Ext ι h H ι h (upd H dx (.own x)) := .new hd
  have hx1 : upd H dx (HO.own x) x = Option.none := by rw [upd_ne (Ne.symm ne)]; exact hx
  have R2 : RH K (ι.res x) h (upd (upd H dx (.own x)) x (.ins C dx [])) := res_rh R1.rh hx1
  have P2 := res_pres (ι := ι) (h := h) (u := .ins C dx []) hx1
  have R3 : RH K ((ι.res x).cellAt x ι.g) (h ++ [.live (.ins c [] [])]) (upd (upd H dx (.own x)) x (.ins C dx [])) :=
    nc_rhO R2 rfl (res_no R.rh hx) ⟨C, dx, [], upd_same, nm, rfl, .nil⟩ rfl
  have P3 := nc_pres R2 (g := ι.g) rfl (.ins c [] [])
  have x3 : Ext ι h H ((ι.res x).cellAt x ι.g) (h ++ [.live (.ins c [] [])]) (upd (upd H dx (.own x)) x (.ins C dx [])) := by
    refine nc_ext R.rh R2 rfl ?_ hx _
    have y : Ext ι h H ι h (upd (upd H dx (.own x)) x (.ins C dx [])) := x1.trans (.new hx1)
    exact y
  refine ⟨_, _, .ref h.length :: ds, R3, .cons (nc_rep R2) (((rs.ext x1).pr P2).pr P3), ?_⟩
  revert k
  generalize ρ (.ref h.length :: ds) (h ++ [.live (.ins c [] [])]) = r
  intro k
  cases r with
  | err _ _ => exact k
  | bad => exact k
  | ok d h' =>
    cases d <;> try exact k.elim
    intro ι' H' v y R' rv
    cases rv
    refine ⟨rfl, k ι' H' _ (x3.trans y) ⟨R', R.re.ext (x3.trans y)⟩ ?_⟩
    refine Rep.ext y (.ref ?_)
    show (ι.c ++ [some x])[h.length]? = _
    rw [get_snoc, if_pos R.rh.len.symm]
theorem s_mk {c : Str} {ρ : List D → Hs → Res D} (hgd : X.A.guards = some []) (ok : MkOk X c ρ) (hg : Gl X c) (hd : (c == ("__debug__" : Str)) = false) (ha : PA X (a :: es) (rdA X.K dA)) (hp : (a :: es).all plain = true) : PE X (.Call (.Name c p) (a :: es) [] pos) (rdE X.K (dMk c ρ dA)) := by
  rw [List.all_cons, Bool.and_eq_true] at hp
  obtain ⟨C, g, k, cf, hm, M, F, hr⟩ := ok.ex
  refine ⟨fun pins s σ H Q I h => ?_⟩
  obtain ⟨ι, e, h, R, kk⟩ := h
  refine wpAny_Call_Name_kw (ld_glob I hg hm ?_ hd)
  refine PySem.W.callWith_K (h₀ := X.base) I.ok.mod.kin M.kp (thn (ha.run pos pins s σ H _ I ⟨ι, e, h, R, Kg.bind (RR' := Rep X.K) kk⟩) fun us s1 ⟨vs, H1, I1, r, ds, h1, ι1, n1⟩ => ⟨I1.kIn, ?_⟩) (star_of hp.1) (star_all hp.2)
  exact runMake (kw := []) M F hr hgd I1 r (mk_sp cf.nm n1.R n1.rr n1.k)
theorem s_mk0 {c : Str} {ρ : List D → Hs → Res D} (hgd : X.A.guards = some []) (ok : MkOk X c ρ) (hg : Gl X c) (hd : (c == ("__debug__" : Str)) = false) : PE X (.Call (.Name c p) [] [] pos) (rdE X.K (dMk c ρ aNil)) := by
  obtain ⟨C, g, k, cf, hm, M, F, hr⟩ := ok.ex
  refine ⟨fun pins s σ H Q I h => ?_⟩
  obtain ⟨ι, e, h, R, kk⟩ := h
  refine wpAny_Call_Name_kw (ld_glob I hg hm ?_ hd)
  exact PySem.W.callWith_K0 I.kIn M.kp (runMake (kw := []) (us := []) M F hr hgd I .nil (mk_sp cf.nm R .nil kk))
/-- the items that a star hands on -/
def starD (h : Hs) : D → Option (List D)
  | .tup xs => some xs
  | x => asL h x
theorem starD_rep {K : PySem.W.Frag} {ι : Io} {h : Hs} {H : Hp} (R : RH K ι h H) {d : D} {xs : List D} {v : V} (q : starD h d = some xs) (r : Rep K ι H d v) : ∃ a vs, v = .ref a ∧ (SqT K H a vs ∨ SqL K H a vs) ∧ RepL K ι H xs vs := by
  unfold starD at q
  split at q
  · cases q
    cases r with
    | tup f t => exact ⟨_, _, rfl, .inl f.sq, t⟩
  · obtain ⟨a, vs, rfl, s, t⟩ := asL_rep R q r
    exact ⟨a, vs, rfl, .inr s, t⟩
/-- C( *y) -/
def dMkS (c : Str) (ρ : List D → Hs → Res D) (y : Den) : Den := dMk c ρ fun e h => (y e h).bind fun d h => .of (starD h d) h
theorem s_mkS {c : Str} {ρ : List D → Hs → Res D} {sp_ : Pos} (hgd : X.A.guards = some []) (ok : MkOk X c ρ) (hg : Gl X c) (hd : (c == ("__debug__" : Str)) = false) (ha : PE X a (rdE X.K da)) : PE X (.Call (.Name c p) [.Starred a sp_] [] pos) (rdE X.K (dMkS c ρ da)) := by
  obtain ⟨C, g, k, cf, hm, M, F, hr⟩ := ok.ex
  refine ⟨fun pins s σ H Q I h => ?_⟩
  obtain ⟨ι, e, h, R, kk⟩ := h
  refine wpAny_Call_Name_kw (ld_glob I hg hm ?_ hd)
  unfold dMkS dMk at kk
  rw [Res.bind_assoc] at kk
  refine PySem.W.callWith_S (h₀ := X.base) I.ok.mod.kin M.kp (thn (ha.run pins s σ H _ I ⟨ι, e, h, R, Kg.bind (RR' := Rep X.K) kk⟩) fun v s1 ⟨y, H1, I1, ry, d, h1, ι1, n1⟩ => ?_) rfl
  have k1 := n1.k
  cases q : starD h1 d with
  | none => rw [q] at k1; exact k1.elim
  | some ds =>
    rw [q] at k1
    obtain ⟨b, vs, rfl, sq, t⟩ := starD_rep n1.R.rh q n1.rr
    obtain rfl : v = Value.ref b := ry
    refine StX.star_any I1 sq fun us s2 I2 rv => ⟨I2.kIn, ?_⟩
    exact runMake (kw := []) M F hr hgd I2 rv (mk_sp cf.nm n1.R t k1)
/-! ### C.m(..), a class method -/
def dCm (c : Str) (n : Nat) (ρ : List D → Hs → Res D) (a : DenA) : Den := fun e h => (a e h).bind fun ds h => ar n ρ (.cls c :: ds) h
structure CmOk (X : Cx) (c m : Str) (n : Nat) (ρ : List D → Hs → Res D) : Prop where
  ex : ∃ C mc q g k, ClsF X.K c C ∧ X.mg c = some (.ref C) ∧ ClX.CRead X.K C mc ∧ ClX.CMet X.K C mc m q g ∧ GR X.prog X.w X.K X.mg X.base k g (spA X.K (ar n ρ)) ∧ Room k X.A
theorem s_cm {c : Str} {n : Nat} {ρ : List D → Hs → Res D} (hgd : X.A.guards = some []) (ok : CmOk X c m n ρ) (hg : Gl X c) (hd : (c == ("__debug__" : Str)) = false) (ha : PA X (a :: es) (rdA X.K dA)) (hf : okMeth (.Name c p) (a :: es) apos pos = true) :
    PE X (.Call (.Attribute (.Name c p) m apos) (a :: es) [] pos) (rdE X.K (dCm c n ρ dA)) := by
  have hp : (a :: es).all plain = true := by
    unfold okMeth at hf
    rw [Bool.and_eq_true, Bool.and_eq_true, Bool.and_eq_true] at hf
    exact hf.1.1.2
  rw [List.all_cons, Bool.and_eq_true] at hp
  obtain ⟨C, mc, q, g, k, cf, hm, rd, cm, F, hr⟩ := ok.ex
  refine ⟨fun pins s σ H Q I h => ?_⟩
  obtain ⟨ι, e, h, R, kk⟩ := h
  refine PySem.W.methodCall_KW (ld_glob I hg hm ?_ hd) (meth_eq hf)
  refine ClX.getmethcm_ok I rd cm fun s2 I2 => ?_
  refine ClX.callwith_cm I2 (ClX.base_none I (Nat.le_refl _)) cm.fi (thn (ha.run pos _ s2 σ H _ I2 ⟨ι, e, h, R, Kg.bind (RR' := Rep X.K) kk⟩) fun us s3 ⟨vs, H2, I3, rv, ds, h1, ι1, n1⟩ => ⟨⟨ClX.pin_at I3, I3.kIn⟩, ?_⟩) (star_of hp.1) (star_all hp.2)
  refine thn (wpAny_call (PySem.W.method_call (ClX.pin_at I3) (runR (us := .ref C :: us) (vs := .ref C :: vs) F hr hgd I3 (.cons rfl rv) ⟨ι1, h1, .cls c :: ds, n1.R.rh, .cons (.cls cf.nm) n1.rr, kc_of n1.R.re n1.k⟩))) fun _ _ y => ClX.unpinE y
/-! ### isinstance(x, C) of own classes -/
inductive TyW where
  | t (t : TyD) | own (c : Str)
def tyW (x : D) (h : Hs) : Option TyW := match insAt h x with
  | some (c, _, _) => some (.own c)
  | none => (tyD x h).map .t
/-- cs: the classes that are known; an instance of c? -/
def fIsO (cs : List Str) (c : Str) : F1 := fun x h => match tyW x h with
  | some (.t _) => some (.bl false)
  | some (.own c') => if cs.contains c' = true then some (.bl (c' == c)) else none
  | none => none
structure IsOk (X : Cx) (cs : List Str) (c : Str) : Prop where
  ex : ∃ C, X.mg c = some (.ref C) ∧ (∀ t : TyD, PySem.W.kitOne X.K (.type t.name) (.ref C) = some false) ∧
    ∀ c' ∈ cs, ∃ C', ClsF X.K c' C' ∧ PySem.W.kitOne X.K (.ref C') (.ref C) = some (c' == c) ∧ ∀ (H : Hp) (a dx : Addr) (fs : List (Str × V)), H a = some (.ins C' dx fs) → TyOf X.K H (.ref a) (.ref C')
theorem s_isO {cs : List Str} {c : Str} {p2 : Pos} (ok : IsOk X cs c) (hgc : Gl X c) (hdc : (c == ("__debug__" : Str)) = false) (hg : Gl X "isinstance") (hm : X.mg "isinstance" = none) (ha : PE X a (rdE X.K da)) (pa : plain a = true) :
    PE X (.Call (.Name "isinstance" p) [a, .Name c p2] [] pos) (rdE X.K (dB1 (fIsO cs c) da)) := by
  obtain ⟨C, mc, k1, k2⟩ := ok.ex
  refine (pe_callB call_isiY hg hm (by decide +kernel) (pa_cons ha (pa_cons (pe_glob (v := .ref C) hgc mc rfl hdc) pa_nil) (star_of pa)) (by decide) (by decide) (star_of pa) rfl).wkn fun σ H Q ⟨ι, e, h, R, k⟩ => ?_
  refine ⟨ι, e, h, R, (Kg.bind k).imp fun v H1 ⟨d, h1, ι1, n1⟩ => ?_⟩
  obtain ⟨b, q, kk⟩ := Kd.of_some n1.k
  unfold fIsO tyW at q
  cases z : insAt h1 d with
  | none =>
    rw [z] at q
    dsimp only at q
    cases z2 : tyD d h1 with
    | none => rw [z2] at q; cases q
    | some t =>
      rw [z2] at q; cases q
      exact ⟨v, .ref C, .type t.name, .ref C, false, rfl, .own _, tyD_rep n1.R.rh z2 n1.rr, k1 t, kk.here n1.R (.bl _)⟩
  | some w =>
    obtain ⟨c', ks, ds⟩ := w
    rw [z] at q
    dsimp only at q
    split at q
    · rename_i hc
      cases q
      obtain ⟨b, C1, dx, fs, rfl, ea, nm, _, _⟩ := insAt_rep n1.R.rh z n1.rr
      obtain ⟨C', cf, e1, e2⟩ := k2 c' (by simpa using hc)
      obtain rfl := cf.uq C1 nm
      exact ⟨.ref b, .ref C, .ref C1, .ref C, _, rfl, .own _, .inl (.base (e2 H1 b dx fs ea)), e1, kk.here n1.R (.bl _)⟩
    · cases q
end
end Ev
/-! EvZa: keywords at methods and at classes: o.m(k = v, ..), C(k = v, ..). -/
namespace Ev
open PySem PySem.Spec L2 PyProof.Rows
variable [TheW]
/-- one argument by its place, all others by their names -/
def arK (n : Nat) (pm : List Nat) (ρ : List D → Hs → Res D) : List D → Hs → Res D := fun ds h => match ds with
  | x :: ds => if (x :: permL pm ds).length = n then ρ (x :: permL pm ds) h else .bad
  | [] => .bad
def GRK (P : Program) (w : World) (K : PySem.W.Frag) (mg : Str → Option Value) (base : Heap) (k : Nat) (f : Addr) (ks : List Str) (sp : Sp) : Prop :=
  ∀ (A : Around) (outer : List Env) (s : Shared) (H : Hp) (u : Value) (us : List Value) (vs : List V) (Q : VK) (E : XK), Room k A → A.guards = some [] → Env0 P w K mg base A outer s H → Vals vs (u :: us) → us.length = ks.length → sp vs H Q E →
    codeAny (model P w) A (.call (.ref f) ⟨[u], ks.zip us⟩) (CR CX0 outer P w H s Q E) s
section
variable {P : Program} {w : World} {K : PySem.W.Frag} {mg : Str → Option Value} {base : Heap} {k n : Nat} {f : Addr} {fd : FuncData} {ps ks : List Str} {ρ : List D → Hs → Res D} {pm : List Nat}
theorem GRK.up {j : Nat} {sp : Sp} (F : GRK P w K mg base j f ks sp) (h : j ≤ k) : GRK P w K mg base k f ks sp := fun A outer s H u us vs Q E hr => F A outer s H u us vs Q E (hr.mono h)
theorem GRK.of (F : GFn P w K mg base k f fd ps (spR K ρ n)) (hb : ∀ (s : Shared) (u : Value) (us : List Value), K.In s.heap → us.length = ks.length → BindsTo s fd ⟨[u], ks.zip us⟩ (ps.zip (u :: permL pm us))) : GRK P w K mg base k f ks (spA K (arK n pm ρ)) := by
  intro A outer s H u us vs Q E hr hg e0 r hl ⟨ι, h, ds, R, rp, kk⟩
  cases rp with
  | nil => cases r
  | cons r1 rp =>
    rename_i d v ds vs
    unfold arK at kk
    dsimp only at kk
    split at kk
    · rename_i hn
      have KX : K.In s.heap := e0.mod.kin.keeps fun b o e => (e0.bs b o e).1
      have bt := hb s u us KX hl
      cases r with
      | cons a b => exact F.run A outer s H ⟨[u], ks.zip us⟩ (u :: permL pm us) (v :: permL pm vs) Q E hr hg e0 bt (.cons a (permL_vals b pm)) ⟨by rw [← hn, List.length_cons, List.length_cons, (permL_rep rp pm).length], ι, h, d :: permL pm ds, R, .cons r1 (permL_rep rp pm), kk⟩
    · exact kk.elim
end
section
variable {X : Cx} {pins : List (Addr × Obj)} {σ : L2.St} {H : Hp} {s : Shared} {k : Nat} {f C : Addr} {sp : Sp} {Q : VK} {u : Value} {us : List Value} {vs : List V} {ks : List Str}
theorem runRK (F : GRK X.prog X.w X.K X.mg X.base k f ks sp) (hr : Room k X.A) (hgd : X.A.guards = some []) (I : Inv X pins σ H s) (r : Vals vs (u :: us)) (hl : us.length = ks.length) (h : sp vs H Q E0) :
    codeAny (model X.prog X.w) X.A (.call (.ref f) ⟨[u], ks.zip us⟩) (fun r s' => match r with | .ok (.ret v) => EP X pins σ Q v s' | .ok _ => False | .error e => X.xe e s') s := by
  refine codeAny_mono (F X.A X.stack s H u us vs Q E0 hr hgd I.env0 r hl h) fun r s' hq => ?_
  match r, hq with
  | .ok (.ret u), hq => exact I.after hq
theorem runMakeK (M : Mk X.K C f) (F : GRK X.prog X.w X.K X.mg X.base k f ks sp) (hr : Room (k + 1) X.A) (hgd : X.A.guards = some []) (I : Inv X pins σ H s) (r : Vals vs us) (hl : us.length = ks.length)
    (h : ∀ x dx, H x = Option.none → H dx = Option.none → dx ≠ x → sp (V.ref x :: vs) (upd (upd H dx (.own x)) x (.ins C dx [])) (fun v H2 => v = .non ∧ Q (.ref x) H2) E0) :
    wpAny (model X.prog X.w) X.A (call (.ref C) [] (ks.zip us)) (EP X pins σ Q) X.xe s := by
  have hq := h (s.heap.objs.size + 1) s.heap.objs.size (I.hok.fresh (Nat.le_succ _)) (I.hok.fresh (Nat.le_refl _)) (Nat.ne_of_lt (Nat.lt_succ_self _))
  have I2 := Inv.made (C := C) I
  have r2 : Vals (V.ref (s.heap.objs.size + 1) :: vs) (Value.ref (s.heap.objs.size + 1) :: us) := .cons rfl r
  refine wpAny_call (make_map (f := f) (vs := []) (kw := ks.zip us) I.kIn M.makes M.init (beq_iff_eq.mp M.fn) (codeAny_mono (F _ X.stack _ _ (Value.ref (s.heap.objs.size + 1)) us _ _ E0 (hr.make C [] (ks.zip us)) (by rw [make_guards]; exact hgd) (I2.env0.make C [] (ks.zip us)) r2 hl hq) fun r s' hq' => ?_))
  match r, hq' with
  | .ok (.ret u), hq' =>
    obtain ⟨v, H', I3, rv, ev, q3⟩ := I2.after hq'
    subst ev
    exact ⟨rv, ⟨V.ref (s.heap.objs.size + 1), H', I3, rfl, q3⟩⟩
end
/-! ### o.m(k = v, ..) -/
def dMetK (m : Str) (tb : List (Str × Nat × (List D → Hs → Res D))) (N : Nat) (pm : List Nat) (o : Den) (a : DenA) : Den := fun e h => (o e h).bind fun x h => match insAt h x with
  | none => .bad
  | some (c, ks, vs) => match tb.lookup c with
    | none => .bad
    | some (n, ρ) => if (fldD ks vs m).isNone = true then (a e h).bind fun ds h => if ds.length = N then arK n pm ρ (x :: ds) h else .bad else .bad
def MetKOk (X : Cx) (m : Str) (kn : List Str) (pm : List Nat) (tb : List (Str × Nat × (List D → Hs → Res D))) : Prop := ∀ c n ρ, (c, n, ρ) ∈ tb → ∃ C g k, ClsF X.K c C ∧ Meth X.K C m g ∧ GRK X.prog X.w X.K X.mg X.base k g kn (spA X.K (arK n pm ρ)) ∧ Room k X.A
section
variable {X : Cx} {o : Expr} {kws : List Keyword} {pos apos p : Pos} {dO : Den} {dA : DenA} {m x : Str} {kn : List Str} {pm : List Nat}
def okMethK (o : Expr) (kws : List Keyword) (apos pos : Pos) : Bool := nosuper o && decide (kws.length < 29) && (apos.endLine == pos.line)
theorem meth_eqK {env : Env} (hn : kws.map (·.arg) = kn.map some) (h : okMethK o kws apos pos = true) : eval (.Call (.Attribute o m apos) [] kws pos) env = (do
      let ov ← eval o env
      standAt apos.atName
      let (f, first) ← holding [ov] (getMethod ov m (do return (← importBound o env).getD true))
      callWith pos f first (backTo pos (starEach [] env)) (backToKw pos (keywordEach kws env))) := by
  unfold okMethK at h
  rw [Bool.and_eq_true, Bool.and_eq_true] at h
  obtain ⟨⟨h1, h3⟩, h4⟩ := h
  have h3 := of_decide_eq_true h3
  obtain ⟨a1, a2, a3⟩ := kw_some (pos := pos) (env := env) hn
  have hform : methodCallForm (([] : List Expr).length + kws.length) (backTo pos (starEach [] env)) (backToKw pos (keywordEach kws env)) = true := by
    unfold methodCallForm
    rw [a1]
    show (true && true && decide (0 + kws.length + _ < 30)) = true
    rw [decide_eq_true (by split <;> omega)]; rfl
  have hpos : methodCallPos true o env apos pos = pure pos := by
    unfold methodCallPos
    rw [h4]; rfl
  rw [arm_eval_Call, abase h1]
  unfold methodCall
  rw [hform, hpos]
  rfl
theorem s_metK {tb : List (Str × Nat × (List D → Hs → Res D))} (hgd : X.A.guards = some []) (ok : MetKOk X m kn pm tb) (ho : PE X o (rdE X.K dO)) (ha : PK X kws (rdA X.K dA)) (hn : kws.map (·.arg) = kn.map some) (hf : okMethK o kws apos pos = true) : PE X (.Call (.Attribute o m apos) [] kws pos) (rdE X.K (dMetK m tb kn.length pm dO dA)) := by
  obtain ⟨a1, a2, a3⟩ := kw_some (pos := pos) (env := X.env) hn
  refine ⟨fun pins s σ H Q I h => ?_⟩
  obtain ⟨ι, e, h, R, k⟩ := h
  refine PySem.W.methodCall_KW (thn (ho.run pins s σ H _ I ⟨ι, e, h, R, Kg.bind (RR' := Rep X.K) k⟩) fun u s1 ⟨v, H1, I1, rv, x, h1, ι1, n1⟩ => ?_) (meth_eqK hn hf)
  have k1 := n1.k
  have R1 := n1.R
  have r1 := n1.rr
  cases q : insAt h1 x with
  | none => rw [q] at k1; exact k1.elim
  | some z =>
  obtain ⟨c, ks, ds⟩ := z
  rw [q] at k1
  dsimp only at k1
  obtain ⟨p, C, dx, fs, rfl, ea, nm, ek, t⟩ := insAt_rep R1.rh q r1
  obtain rfl : u = Value.ref p := rv
  cases q2 : tb.lookup c with
  | none => rw [q2] at k1; exact k1.elim
  | some nr =>
  obtain ⟨n, ρ⟩ := nr
  rw [q2] at k1
  dsimp only at k1
  obtain ⟨C1, g, kk, cf, me, F, hr⟩ := ok c n ρ (lookMem q2)
  obtain rfl := cf.uq C nm
  split at k1
  · rename_i hn1
    subst ek
    have ln := fdn t hn1
    refine getmeth_ok I1 ea cf.cl me ln ?_
    refine PySem.W.callWith_KW0 (first := [.ref p]) (h₀ := X.base) I.ok.mod.kin me.kp a1 (thn (ha.run pos pins s1 σ H1 _ I1 ⟨ι1, e, h1, R1, Kg.bind (RR' := Rep X.K) k1⟩) fun us s2 ⟨vs, H2, I2, rs, ds2, h2, ι2, n2⟩ => ⟨I2.kIn, ?_⟩) (by rw [a2]; rfl)
    rw [a3]
    have k2 := n2.k
    split at k2
    · rename_i hl
      exact wpAny_call (runRK (u := .ref p) (us := us) (vs := .ref p :: vs) F hr hgd I2 (.cons rfl rs) (by rw [← rs.length, ← n2.rr.length]; exact hl) ⟨ι2, h2, x :: ds2, n2.R.rh, .cons (r1.ext n2.x) n2.rr, kc_of n2.R.re k2⟩)
    · exact k2.elim
  · exact k1.elim
/-! ### C(k = v, ..) -/
structure MkKOk (X : Cx) (c : Str) (kn : List Str) (ρ : List D → Hs → Res D) : Prop where
  ex : ∃ C g k, ClsF X.K c C ∧ X.mg c = some (.ref C) ∧ Mk X.K C g ∧ GRK X.prog X.w X.K X.mg X.base k g kn (spA X.K ρ) ∧ Room (k + 1) X.A
def dMkK (c : Str) (N : Nat) (ρ : List D → Hs → Res D) (a : DenA) : Den := dMk c ρ fun e h => (a e h).bind fun ds h => if ds.length = N then .ok ds h else .bad
theorem s_mkK {c : Str} {ρ : List D → Hs → Res D} (hgd : X.A.guards = some []) (ok : MkKOk X c kn ρ) (hg : Gl X c) (hd : (c == ("__debug__" : Str)) = false) (ha : PK X kws (rdA X.K dA)) (hn : kws.map (·.arg) = kn.map some) : PE X (.Call (.Name c p) [] kws pos) (rdE X.K (dMkK c kn.length ρ dA)) := by
  obtain ⟨a1, a2, a3⟩ := kw_some (pos := pos) (env := X.env) hn
  obtain ⟨C, g, k, cf, hm, M, F, hr⟩ := ok.ex
  refine ⟨fun pins s σ H Q I h => ?_⟩
  obtain ⟨ι, e, h, R, kk⟩ := h
  unfold dMkK dMk at kk
  rw [Res.bind_assoc] at kk
  refine wpAny_Call_Name_kw (ld_glob I hg hm ?_ hd)
  refine PySem.W.callWith_KW0 (h₀ := X.base) I.ok.mod.kin M.kp a1 (thn (ha.run pos pins s σ H _ I ⟨ι, e, h, R, Kg.bind (RR' := Rep X.K) kk⟩) fun us s1 ⟨vs, H1, I1, r, ds, h1, ι1, n1⟩ => ⟨I1.kIn, ?_⟩) (by rw [a2]; rfl)
  rw [a3]
  have k2 := n1.k
  split at k2
  · rename_i hl
    exact runMakeK M F hr hgd I1 r (by rw [← r.length, ← n1.rr.length]; exact hl) (mk_sp cf.nm n1.R n1.rr k2)
  · exact k2.elim
end
end Ev
/-! EvZb: str(x) of instances by the class's own text. -/
namespace Ev
open PySem PySem.Spec L2 PyProof.Rows
open PySem.Builtin PySem.Builtin.Str
variable [TheW]

def strRes (d : D) (h : Hs) : Res D := match d with
  | .str s => .ok (.str s) h
  | _ => .bad
/-- str(x) -/
def dStrI (tb : List (Str × Nat × (List D → Hs → Res D))) (a : Den) : Den := fun e h => (a e h).bind fun x h => match insAt h x with
  | none => .of (fStr x h) h
  | some (c, _, _) => match tb.lookup c with
    | none => .bad
    | some (n, ρ) => (ar n ρ [x] h).bind strRes
section
variable {prog : Program} {w : World} {A : Around} {E : Value → Shared → Prop} {K : PySem.W.Frag} {s : Shared} {a C g : Addr} {ox : Obj} {od : Option Obj}
theorem special_own {name : Str} {args : List Value} {Q : Option Value → Shared → Prop} (X : K.In s.heap) (I : PySem.W.InstAt s.heap a ox C od) (hf : PySem.W.findIn K (.ref C) name = some (some (.ref g))) (hfn : PySem.W.isFn K (.ref g) = true)
    (hc : wpAny (model prog w) A (call (.ref g) (.ref a :: args)) (fun v s' => Q (some v) s') E s) : wpAny (model prog w) A (callSpecial? (.ref a) name args) Q E s := by
  unfold callSpecial? specialOf
  refine wpAny_bind (wpAny_bind (I.type.here ((PySem.W.looks_findIn X hf).here ?_)))
  refine wpAny_holding ?_
  refine wpAny_bind ((PySem.W.bind_fn X (.ref a) (beq_iff_eq.mp hfn)).here ?_)
  exact wpAny_bind (wpAny_mono hc (fun v s' h => wpAny_pure h) fun _ _ z => z)
end
section
variable {X : Cx} {pins : List (Addr × Obj)} {σ : L2.St} {H : Hp} {s : Shared} {Q : VK} {a C dx g : Addr} {fs : List (Str × V)} {k : Nat} {sp : Sp}
theorem call_strO (I : Inv X pins σ H s) (ea : H a = some (.ins C dx fs)) (me : Meth X.K C "__str__" g) (FF : GR X.prog X.w X.K X.mg X.base k g sp) (hr : Room (k + 2) X.A) (hgd : X.A.guards = some []) (hu : X.A.units + 66 < cLine)
    (h : sp [.ref a] H (fun v H' => (∃ y, v = .str y) ∧ Q v H') E0) : wpAny (model X.prog X.w) X.A (call (.type "str") [.ref a]) (EP X pins σ Q) X.xe s := by
  obtain ⟨mA, O, _, _, _, _⟩ := ins_get I.hok ea
  obtain ⟨od, J, _⟩ := O.look
  refine callType_newIn (S := fun A' R s' => s' = s ∧ A' = X.A.in1 ∧ ∀ y t s2, EP X pins σ Q (.str y t) s2 → R (.ok (.ret (.str y t))) s2) F.called_str (by decide) (F.typeCall_str_1 _) (F.newCall_str_1 _) (fun obj => F.args_object_init_2 obj _) F.entry_str_new (MeetsIn.of_wp fun A' R s' hS => ?_) ⟨rfl, rfl, fun y t s2 z => ⟨typeIs_str _ _ _, z⟩⟩
  obtain ⟨rfl, rfl, hR⟩ := hS
  rw [str_new_tree]
  refine wpAny_bind (wpAny_pure ?_)
  refine wpAny_bind (wpAny_of_eq isSubtype_str_str ?_)
  refine wpAny_bind ?_
  unfold PySem.Builtin.Str.strOf
  show wpAny _ _ (if isExactStr (Value.ref a) = true then _ else _) _ _ _
  rw [show isExactStr (Value.ref a) = false from rfl, if_neg (by decide)]
  refine wpAny_bind (wpAny_cRoomFor (by show X.A.units + 1 + 1 < cLine; omega) ?_)
  refine wpAny_bind (special_own (name := Str.ofString "__str__") I.kIn J me.at_ me.fn ?_)
  have I1 := I
  refine wpAny_call (codeAny_mono (FF X.A.in1.in1 X.stack s' H [.ref a] [.ref a] _ E0 hr.in1.in1 hgd I1.env0.in1.in1 (.cons rfl .nil) h) fun r s2 hq => ?_)
  match r, hq with
  | .ok (.ret u), hq =>
    obtain ⟨v, H', I3, rv, ⟨y, rfl⟩, q3⟩ := I1.after hq
    obtain ⟨t, rfl⟩ := rv
    refine wpAny_bind (wpAny_pure ?_)
    exact wpAny_pure (wpAny_pure ⟨_, rfl, hR y t s2 ⟨.str y, H', I3, ⟨t, rfl⟩, q3⟩⟩)
/-- what of the text this leans on -/
def SpcOk (X : Cx) (m : Str) (tb : List (Str × Nat × (List D → Hs → Res D))) : Prop := ∀ c n ρ, (c, n, ρ) ∈ tb → ∃ C g k, ClsF X.K c C ∧ Meth X.K C m g ∧ GR X.prog X.w X.K X.mg X.base k g (spA X.K (ar n ρ)) ∧ Room (k + 2) X.A
theorem s_strI {e₁ : Expr} {p pos : Pos} {da : Den} {tb : List (Str × Nat × (List D → Hs → Res D))} (hgd : X.A.guards = some []) (hu : X.A.units + 66 < cLine) (ok : SpcOk X "__str__" tb) (hg : Gl X "str") (hm : X.mg "str" = none) (ha : PE X e₁ (rdE X.K da)) (pa : plain e₁ = true) : PE X (.Call (.Name "str" p) [e₁] [] pos) (rdE X.K (dStrI tb da)) := by
  refine ⟨fun pins s σ H Q I h => ?_⟩
  obtain ⟨ι, e, h, R, k⟩ := h
  refine wpAny_Call_Name_kw (ld_blt I hg hm (show bootBuiltins "str" = some (.type "str") by decide +kernel) ?_ (by decide) (by decide))
  have k0 : Ka X.K ι h H e σ (aCons da aNil e h) (fun vs H1 => ∃ v x h1 ι1, vs = [v] ∧ Kn (Rep X.K) (Rep X.K) X.K ι h H e σ (da e h) (fun x h => match insAt h x with
      | none => .of (fStr x h) h
      | some (c, _, _) => match tb.lookup c with
        | none => .bad
        | some (n, ρ) => (ar n ρ [x] h).bind strRes) Q v H1 x h1 ι1) := by
    show Ka X.K ι h H e σ ((da e h).bind fun x h => (aNil e h).bind fun xs h => .ok (x :: xs) h) _
    have kk := Kg.bind (RR := Rep X.K) (RR' := Rep X.K) k
    revert kk
    cases da e h with
    | err _ _ => exact fun kk => kk
    | bad => exact fun kk => kk
    | ok d h1 =>
      intro kk ι' H' vs x' R' rr
      cases rr with
      | cons r t =>
        cases t
        obtain ⟨x, h1, ι1, n1⟩ := kk ι' H' _ x' R' r
        exact ⟨_, x, h1, ι1, rfl, n1⟩
  refine callWith_type1 (thn ((a_one (es := []) ha pa).run pos pins s σ H _ I ⟨ι, e, h, R, k0⟩) fun us s1 ⟨vs, H1, I1, r1, v, x, h1, ι1, ev, n1⟩ => ?_) (star_of pa) rfl
  subst ev
  have k1 := n1.k
  have R1 := n1.R
  have rx := n1.rr
  cases q : insAt h1 x with
  | none =>
    rw [q] at k1
    obtain ⟨d, q1, k2⟩ := Kd.of_some k1
    exact (call_str_int.or SkE.call_str_str) pins s1 σ H1 [v] us Q I1 r1 (ok_str _ _ _ _ _ _ _ _ _ R1 q1 rx k2)
  | some z =>
    obtain ⟨c, ks, ds⟩ := z
    rw [q] at k1
    dsimp only at k1
    obtain ⟨p, C, dx, fs, rfl, ea, nm, ek, t⟩ := insAt_rep R1.rh q rx
    obtain ⟨u, rfl, ru⟩ := vals1 r1
    obtain rfl : u = Value.ref p := ru
    cases q2 : tb.lookup c with
    | none => rw [q2] at k1; exact k1.elim
    | some nr =>
    obtain ⟨n, ρ⟩ := nr
    rw [q2] at k1
    dsimp only at k1
    obtain ⟨C1, g, kk, cf, me, F, hr⟩ := ok c n ρ (lookMem q2)
    obtain rfl := cf.uq C nm
    refine call_strO I1 ea me F hr hgd hu ⟨ι1, h1, [x], R1.rh, .cons rx .nil, ?_⟩
    revert k1
    cases ar n ρ [x] h1 with
    | err _ _ => exact fun k1 => k1
    | bad => exact fun k1 => k1
    | ok d h2 =>
      intro k1 ι' H' v y R' rv
      cases d <;> try exact k1.elim
      cases rv
      exact ⟨⟨_, rfl⟩, k1 ι' H' _ y ⟨R', R1.re.ext y⟩ (.str _)⟩
end
end Ev
/-! EvZc: == of instances by the class's own text. -/
namespace Ev
open PySem PySem.Spec L2 PyProof.Rows
open PySem.Builtin PySem.Builtin.Str
variable [TheW]

def boolRes (d : D) (h : Hs) : Res Bool := match d with
  | .bl b => .ok b h
  | _ => .bad
def eqI (tb : List (Str × Nat × (List D → Hs → Res D))) (x y : D) (h : Hs) : Res Bool := match insAt h x with
  | none => cmp2 .Eq x y h
  | some (c, _, _) => match insAt h y with
    | none => match tyD y h with
      | none => .bad
      | some _ => match tb.lookup c with
        | none => .bad
        | some (n, ρ) => (ar n ρ [x, y] h).bind boolRes
    | some (c2, _, _) => if c2 = c then match tb.lookup c with
      | none => .bad
      | some (n, ρ) => (ar n ρ [x, y] h).bind boolRes
      else .bad
def neI (tb : List (Str × Nat × (List D → Hs → Res D))) (x y : D) (h : Hs) : Res Bool := match insAt h x with
  | none => cmp2 .NotEq x y h
  | some (c, _, _) => match insAt h y with
    | none => .bad
    | some (c2, _, _) => if c2 = c then match tb.lookup c with
      | none => .bad
      | some (n, ρ) => (ar n ρ [x, y] h).bind fun d h => (boolRes d h).bind fun b h => .ok (!b) h
      else .bad
/-- x != y -/
def tNeI (tb : List (Str × Nat × (List D → Hs → Res D))) (a b : Den) : DenT := fun e h => (a e h).bind fun x h => (b e h).bind fun y h => neI tb x y h
/-- x == y -/
def tEqI (tb : List (Str × Nat × (List D → Hs → Res D))) (a b : Den) : DenT := fun e h => (a e h).bind fun x h => (b e h).bind fun y h => eqI tb x y h
section
variable {X : Cx} {a b : Expr} {pos : Pos} {da db : Den} {tb : List (Str × Nat × (List D → Hs → Res D))}
/-- what stands on the right of == : an instance of the class, or a value of a built-in type -/
def YOk (X : Cx) (C : Addr) (y : V) (H : Hp) : Prop := (∃ q dy gs, y = .ref q ∧ H q = some (.ins C dy gs)) ∨ ∃ t : TyD, TyY X.K H y (.type t.name)
theorem look_y {pins : List (Addr × Obj)} {σ : L2.St} {H : Hp} {s : Shared} {y : V} {u : Value} {C : Addr} (I : Inv X pins σ H s) (ry : RelV y u) (h : YOk X C y H) : ∃ t, PySem.W.Looks (model X.prog X.w) s.heap (typeOf u) t ∧ PySem.W.notFirst X.K C t = true := by
  rcases h with ⟨q, dy, gs, rfl, eb⟩ | ⟨t, ty⟩
  · cases ry
    obtain ⟨mB, O', _⟩ := ins_get I.hok eb
    obtain ⟨od', J', _⟩ := O'.look
    exact ⟨.ref C, J'.type, by simp [PySem.W.notFirst]⟩
  · have nf : PySem.W.notFirst X.K C (.type t.name) = true := by cases t <;> kernel_rfl
    refine ⟨_, ?_, nf⟩
    rcases ty with ty | ⟨e, a, o, rfl, ha, hx⟩
    · obtain ⟨P, Z, p, _⟩ := kit_of I ry ty
      exact Z.ty _ _ I.kIn p
    · cases (show u = Value.ref a from ry)
      obtain ⟨ho, _⟩ := I.hok a _ ha
      rw [e]
      exact PySem.W.kitx_dict.ty _ _ I.kIn ⟨o, ho, hx.1⟩
/-- == by the class's own text -/
def rIns (X : Cx) : R2 := fun x y H Q => ∃ (p C dx g : Addr) (fs : List (Str × V)) (k : Nat) (sp : Sp), x = .ref p ∧ H p = some (.ins C dx fs) ∧ YOk X C y H ∧ Meth X.K C "__eq__" g ∧ GR X.prog X.w X.K X.mg X.base k g sp ∧ Room k X.A ∧
  sp [.ref p, y] H (fun v H' => ∃ c, v = .bl c ∧ Q (.bl c) H') E0
theorem op_eqI (hgd : X.A.guards = some []) (hu : X.A.units < cLine) : OpR X (compareOp .Eq) (rIns X) := by
  intro pins s σ H x y v u Q I rx ry hh
  obtain ⟨p, C, dx, g, fs, k, sp, rfl, ea, yo, me, F, hr, h⟩ := hh
  cases rx
  obtain ⟨mA, O, _⟩ := ins_get I.hok ea
  obtain ⟨od, J, _⟩ := O.look
  obtain ⟨t, L, nf⟩ := look_y I ry yo
  obtain ⟨m, hF⟩ := I.fr
  show wpAny (model X.prog X.w) X.A (richCompare .Eq (.ref p) u) (EP X pins σ Q) X.xe s
  refine PySem.W.cmp_K (op := .Eq) hu hF I.ok.mod.kin J L nf me.at_ me.fn ?_
  refine wpAny_call (codeAny_mono (runR (us := [.ref p, u]) (vs := [.ref p, y]) F hr hgd I (.cons rfl (.cons ry .nil)) h) fun r s' hq => ?_)
  match r, hq with
  | .ok (.ret u), hq =>
    obtain ⟨v, H', I', rv, c, rfl, q⟩ := hq
    cases rv
    exact ⟨.bl c, H', I', rfl, q⟩
  | .error e, hq => exact hq
/-- != where the class tells == and not != -/
theorem ne_K {prog : Program} {w : World} {A : Around} {E : Value → Shared → Prop} {s : Shared} {K : PySem.W.Frag} {x C f : Addr} {ox : Obj} {od : Option Obj} {y : Addr} {Q : Value → Shared → Prop} (hu : A.units + 1 < cLine) (Xk : K.In s.heap) (I : PySem.W.InstAt s.heap x ox C od)
    (hb : PySem.W.Looks (model prog w) s.heap (typeOf (.ref y)) (.ref C)) (po : PySem.W.plainOver K C = true) (hne : PySem.W.findIn K (.ref C) "__ne__" = some (some (.builtin "object.__ne__"))) (hs : PySem.W.findIn K (.ref C) "__eq__" = some (some (.ref f))) (hf : PySem.W.isFn K (.ref f) = true)
    (h : wpAny (model prog w) A.in1 (call (.ref f) [.ref x, .ref y]) (fun v s' => ∃ c, v = .bool c ∧ Q (.bool (!c)) s') E s) : wpAny (model prog w) A (richCompare .NotEq (.ref x) (.ref y)) Q E s := by
  obtain ⟨cd, hc, ho⟩ := PySem.W.any_some po
  have ne : cd.mro.isEmpty = false := by cases q : cd.mro with | nil => rw [q] at ho; cases ho | cons _ _ => rfl
  have sub : PySem.W.Looks (model prog w) s.heap (isInstance (.ref x) (.type "object")) true := I.type.andThen (PySem.W.looks_mroIn Xk (by unfold PySem.W.mroIn; rw [hc, Option.bind_some, if_neg (by rw [ne]; decide), PySem.W.only_has ho]))
  have S := PySem.F.cmp_object.ne
  have body : wpAny (model prog w) A.in1 (Builtin.«object.__ne__» ⟨[.ref x, .ref y], []⟩) (fun fin s' => match fin with
      | .done f => (wants (fun v s' => v ≠ .notImplemented ∧ Q v s') E) (.ok f) s'
      | .again c' => c'.quiet = true ∧ codeAny (model prog w) A c' (wants (fun v s' => v ≠ .notImplemented ∧ Q v s') E) s') (fun e s' => wants (fun v s' => v ≠ .notImplemented ∧ Q v s') E (.error e) s') s := by
    have eqp : wpAny (model prog w) A.in1 (callSpecialIfBound? (.ref x) (Str.ofString "__eq__") [.ref y]) (fun r s' => ∃ b, r = some (.bool b) ∧ Q (.bool (!b)) s') E s :=
      PySem.W.ifBound_K Xk I hs hf (wpAny_mono h (fun r s' ⟨b, e, hq⟩ => ⟨b, by rw [e], hq⟩) fun _ _ e => e)
    unfold Builtin.«object.__ne__»
    refine wpAny_bind (m := _) (wpAny_pure ?_)
    refine wpAny_bind (wpAny_cRoomFor hu ?_)
    refine wpAny_bind (wpAny_mono eqp (fun r s' ⟨b, e, hq⟩ => ?_) fun _ _ e => e)
    subst e
    refine wpAny_bind (m := truthy (.bool b)) (wpAny_truthy_bool ?_)
    exact wpAny_pure ⟨(fun z => nomatch z), hq⟩
  have callN : wpAny (model prog w) A (call (.builtin "object.__ne__") [.ref x, .ref y]) (fun v s' => v ≠ .notImplemented ∧ Q v s') E s :=
    wpAny_call (codeAny_call_builtin S.plain F.cmpEntry_ne (PySem.W.check_slot F.cmpKind_ne F.cmpSplit_ne sub (F.cmpArgs_ne _ _) body))
  have ifb : wpAny (model prog w) A (callSpecialIfBound? (.ref x) (Str.ofString "__ne__") [.ref y]) (fun r s' => ∃ v, r = some v ∧ v ≠ .notImplemented ∧ Q v s') E s := by
    have fin : wpAny (model prog w) A (call (.builtin "object.__ne__") ([.ref x] ++ [.ref y]) >>= fun v => pure (some v)) (fun r s' => ∃ v, r = some v ∧ v ≠ .notImplemented ∧ Q v s') E s := wpAny_bind (wpAny_mono callN (fun v s' h' => wpAny_pure ⟨v, rfl, h'⟩) fun _ _ h' => h')
    simp only [callSpecialIfBound?, bindSpecialIfBound?]
    refine wpAny_holding (wpAny_bind (wpAny_bind (wpAny_bind (I.type.here ((PySem.W.looks_findIn Xk hne).here ?_)))))
    simp only [S.bind]
    refine wpAny_bind (wpAny_askSetting (wpAny_ite ?_))
    split
    · exact wpAny_bind (wpAny_pure (wpAny_pure fin))
    · exact wpAny_tryCatch (wpAny_bind (wpAny_pure (wpAny_pure fin)))
  have one : wpAny (model prog w) A (tryCompare (.ref x) "__ne__" (.ref y)) (fun r s' => ∃ v, r = some v ∧ Q v s') E s := by
    unfold tryCompare
    refine wpAny_bind (wpAny_mono ifb (fun r s' z => ?_) fun _ _ e => e)
    obtain ⟨v, rfl, hn, hq⟩ := z
    cases v <;> first | exact absurd rfl hn | exact wpAny_pure ⟨_, rfl, hq⟩
  unfold richCompare
  simp only [oneThing_ref]
  refine wpAny_holding (wpAny_bind (wpAny_cRoomFor (by omega) ?_))
  rw [cmpInfo_NotEq]
  dsimp only
  refine wpAny_bind (I.type.here (wpAny_bind (hb.here ?_)))
  rw [show (Value.ref C != Value.ref C) = false from by simp]
  simp only [Bool.false_eq_true, if_false]
  refine wpAny_bind (wpAny_pure ?_)
  simp only [Bool.false_eq_true, if_false]
  refine wpAny_bind (wpAny_mono one (fun r s' z => ?_) fun _ _ e => e)
  obtain ⟨v, rfl, hq⟩ := z
  exact wpAny_pure hq
/-- != of two instances of one class -/
def rInsN (X : Cx) : R2 := fun x y H Q => ∃ (p q C dx dy g : Addr) (fs gs : List (Str × V)) (k : Nat) (sp : Sp), x = .ref p ∧ y = .ref q ∧ H p = some (.ins C dx fs) ∧ H q = some (.ins C dy gs) ∧ PySem.W.plainOver X.K C = true ∧ PySem.W.findIn X.K (.ref C) "__ne__" = some (some (.builtin "object.__ne__")) ∧ Meth X.K C "__eq__" g ∧ GR X.prog X.w X.K X.mg X.base k g sp ∧ Room (k + 1) X.A ∧
  sp [.ref p, .ref q] H (fun v H' => ∃ c, v = .bl c ∧ Q (.bl (!c)) H') E0
theorem op_neI (hgd : X.A.guards = some []) (hu : X.A.units + 1 < cLine) : OpR X (compareOp .NotEq) (rInsN X) := by
  intro pins s σ H x y v u Q I rx ry hh
  obtain ⟨p, q, C, dx, dy, g, fs, gs, k, sp, rfl, rfl, ea, eb, po, hne, me, F, hr, h⟩ := hh
  cases rx
  cases ry
  obtain ⟨mA, O, _⟩ := ins_get I.hok ea
  obtain ⟨mB, O', _⟩ := ins_get I.hok eb
  obtain ⟨od, J, _⟩ := O.look
  obtain ⟨od', J', _⟩ := O'.look
  show wpAny (model X.prog X.w) X.A (richCompare .NotEq (.ref p) (.ref q)) (EP X pins σ Q) X.xe s
  refine ne_K hu I.kIn J J'.type po hne me.at_ me.fn ?_
  refine wpAny_call (codeAny_mono (F X.A.in1 X.stack s H [.ref p, .ref q] [.ref p, .ref q] _ E0 hr.in1 hgd I.env0.in1 (.cons rfl (.cons rfl .nil)) h) fun r s' hq => ?_)
  match r, hq with
  | .ok (.ret u), hq =>
    obtain ⟨v, H', I', rv, ⟨c, rfl, q⟩⟩ := I.after hq
    cases rv
    exact ⟨c, rfl, .bl (!c), H', I', rfl, q⟩
theorem eqI_core (ok : SpcOk X "__eq__" tb) {ι : Io} {e : En} {h : Hs} {H : Hp} {σ : L2.St} {x y : D} {v w : V} {W : VK} (R : Rl X.K ι e h σ H) (r1 : Rep X.K ι H x v) (r2 : Rep X.K ι H y w) (k : Kb X.K ι h H e σ (eqI tb x y h) fun b H' => W (.bl b) H') : R2.or (rCm X.K .Eq) (rIns X) v w H W := by
  unfold eqI at k
  cases q1 : insAt h x with
  | none =>
    rw [q1] at k
    obtain ⟨c, q, k2⟩ := Kg.of_some (show Kb X.K ι h H e σ (.of (cop .Eq x y h) h) _ from k)
    exact .inl (cop_ok .Eq R.rh q r1 r2 (k2.here R rfl))
  | some z =>
  obtain ⟨c, ks, ds⟩ := z
  rw [q1] at k
  dsimp only at k
  obtain ⟨p, C, dx, fs, rfl, ea, nm, ek, t⟩ := insAt_rep R.rh q1 r1
  have go : ∀ yo : (∀ C1, ClsF X.K c C1 → C = C1 → YOk X C w H), Kb X.K ι h H e σ (match tb.lookup c with
      | none => .bad
      | some (n, ρ) => (ar n ρ [x, y] h).bind boolRes) (fun b H' => W (.bl b) H') → R2.or (rCm X.K .Eq) (rIns X) (.ref p) w H W := fun yo k => by
    cases q3 : tb.lookup c with
    | none => rw [q3] at k; exact k.elim
    | some nr =>
    obtain ⟨n, ρ⟩ := nr
    rw [q3] at k
    dsimp only at k
    obtain ⟨C1, g, kk, cf, me, F, hr⟩ := ok c n ρ (lookMem q3)
    obtain rfl := cf.uq C nm
    refine .inr ⟨p, _, dx, g, fs, kk, _, rfl, ea, yo _ cf rfl, me, F, hr.mono (by omega), ι, h, [x, y], R.rh, .cons r1 (.cons r2 .nil), ?_⟩
    revert k
    cases ar n ρ [x, y] h with
    | err _ _ => exact fun k => k
    | bad => exact fun k => k
    | ok d h3 =>
      intro k
      cases d <;> try exact k.elim
      rename_i c
      intro ι' H' v y R' rv
      cases rv
      exact ⟨c, rfl, k ι' H' c y ⟨R', R.re.ext y⟩ rfl⟩
  cases q2 : insAt h y with
  | none =>
    rw [q2] at k
    dsimp only at k
    cases q4 : tyD y h with
    | none => rw [q4] at k; exact k.elim
    | some ty =>
      rw [q4] at k
      exact go (fun _ _ _ => .inr ⟨ty, tyD_rep R.rh q4 r2⟩) k
  | some z2 =>
  obtain ⟨c2, ks2, ds2⟩ := z2
  rw [q2] at k
  dsimp only at k
  split at k
  · rename_i e2
    subst e2
    refine go (fun C1 cf e => ?_) k
    obtain ⟨p', C', dx', fs', rfl, ea', nm', ek', t'⟩ := insAt_rep R.rh q2 r2
    rw [e, ← cf.uq C' nm']
    exact .inl ⟨p', dx', fs', rfl, ea'⟩
  · exact k.elim
theorem neI_core (ok : SpcOk X "__eq__" tb) {ι : Io} {e : En} {h : Hs} {H : Hp} {σ : L2.St} {x y : D} {v w : V} {W : VK} (R : Rl X.K ι e h σ H) (r1 : Rep X.K ι H x v) (r2 : Rep X.K ι H y w) (k : Kb X.K ι h H e σ (neI tb x y h) fun b H' => W (.bl b) H') : R2.or (rCm X.K .NotEq) (rInsN X) v w H W := by
  unfold neI at k
  cases q1 : insAt h x with
  | none =>
    rw [q1] at k
    obtain ⟨c, q, k2⟩ := Kg.of_some (show Kb X.K ι h H e σ (.of (cop .NotEq x y h) h) _ from k)
    exact .inl (cop_ok .NotEq R.rh q r1 r2 (k2.here R rfl))
  | some z =>
  obtain ⟨c, ks, ds⟩ := z
  rw [q1] at k
  dsimp only at k
  cases q2 : insAt h y with
  | none => rw [q2] at k; exact k.elim
  | some z2 =>
  obtain ⟨c2, ks2, ds2⟩ := z2
  rw [q2] at k
  dsimp only at k
  split at k
  · rename_i e2
    subst e2
    cases q3 : tb.lookup c2 with
    | none => rw [q3] at k; exact k.elim
    | some nr =>
    obtain ⟨n, ρ⟩ := nr
    rw [q3] at k
    dsimp only at k
    obtain ⟨C1, g, kk, cf, me, F, hr⟩ := ok c2 n ρ (lookMem q3)
    obtain ⟨p, C, dx, fs, rfl, ea, nm, ek, t⟩ := insAt_rep R.rh q1 r1
    obtain ⟨p', C', dx', fs', rfl, ea', nm', ek', t'⟩ := insAt_rep R.rh q2 r2
    obtain rfl := cf.uq C nm
    obtain rfl := cf.uq C' nm'
    refine .inr ⟨p, p', _, dx, dx', g, fs, fs', kk, _, rfl, rfl, ea, ea', cf.cl.po, cf.ne, me, F, hr.mono (by omega), ι, h, [x, y], R.rh, .cons r1 (.cons r2 .nil), ?_⟩
    revert k
    cases ar n ρ [x, y] h with
    | err _ _ => exact fun k => k
    | bad => exact fun k => k
    | ok d h3 =>
      intro k
      cases d <;> try exact k.elim
      rename_i c
      intro ι' H' v y R' rv
      cases rv
      exact ⟨c, rfl, k ι' H' (!c) y ⟨R', R.re.ext y⟩ rfl⟩
  · exact k.elim
theorem s_eqI (hgd : X.A.guards = some []) (hu : X.A.units + 65 < cLine ∧ TheW.w = X.w) (ok : SpcOk X "__eq__" tb) (hp : okOp .Eq b = true) (ha : PE X a (rdE X.K da)) (hb : PE X b (rdE X.K db)) : PE X (.Compare a [.Eq] [b] pos) (rdE X.K (dOf (tEqI tb da db))) := by
  refine (pe_cmpR (opOr (cmr hu .Eq) (op_eqI hgd (by have := hu.1; omega))) ha hb (okOp_marks hp)).wkn fun σ H Q ⟨ι, e, h, R, k⟩ => ?_
  unfold dOf tEqI at k
  rw [Res.bind_assoc] at k
  refine ⟨ι, e, h, R, (Kg.bind k).imp fun v H1 ⟨d, h1, ι1, n1⟩ => ?_⟩
  have k1 := n1.k
  rw [Res.bind_assoc] at k1
  refine ⟨ι1, e, h1, n1.R, (Kg.bind k1).imp fun w H2 ⟨d2, h2, ι2, n2⟩ => ?_⟩
  exact eqI_core ok n2.R (n1.rr.ext n2.x) n2.rr (Kd.test n2.k)
theorem t_eqI (hgd : X.A.guards = some []) (hu : X.A.units + 65 < cLine ∧ TheW.w = X.w) (ok : SpcOk X "__eq__" tb) (hp : okOp .Eq b = true) (ha : PE X a (rdE X.K da)) (hb : PE X b (rdE X.K db)) : PT X (.Compare a [.Eq] [b] pos) (rdT X.K (tEqI tb da db)) := by
  refine (pt_cmpR (opOr (cmr hu .Eq) (op_eqI hgd (by have := hu.1; omega))) ha hb (okOp_marks hp)).wkn fun σ H Q ⟨ι, e, h, R, k⟩ => ?_
  refine ⟨ι, e, h, R, (Kg.bind k).imp fun v H1 ⟨d, h1, ι1, n1⟩ => ?_⟩
  refine ⟨ι1, e, h1, n1.R, (Kg.bind n1.k).imp fun w H2 ⟨d2, h2, ι2, n2⟩ => ?_⟩
  refine eqI_core ok n2.R (n1.rr.ext n2.x) n2.rr ?_
  have k2 := n2.k
  revert k2
  cases eqI tb d d2 h2 with
  | err _ _ => exact fun k => k
  | bad => exact fun k => k
  | ok c h3 => exact fun k ι' H' v y R' rv => ⟨v, rfl, k ι' H' v y R' rv⟩
theorem s_neI (hgd : X.A.guards = some []) (hu : X.A.units + 65 < cLine ∧ TheW.w = X.w) (ok : SpcOk X "__eq__" tb) (hp : okOp .NotEq b = true) (ha : PE X a (rdE X.K da)) (hb : PE X b (rdE X.K db)) : PE X (.Compare a [.NotEq] [b] pos) (rdE X.K (dOf (tNeI tb da db))) := by
  refine (pe_cmpR (opOr (cmr hu .NotEq) (op_neI hgd (by have := hu.1; omega))) ha hb (okOp_marks hp)).wkn fun σ H Q ⟨ι, e, h, R, k⟩ => ?_
  unfold dOf tNeI at k
  rw [Res.bind_assoc] at k
  refine ⟨ι, e, h, R, (Kg.bind k).imp fun v H1 ⟨d, h1, ι1, n1⟩ => ?_⟩
  have k1 := n1.k
  rw [Res.bind_assoc] at k1
  refine ⟨ι1, e, h1, n1.R, (Kg.bind k1).imp fun w H2 ⟨d2, h2, ι2, n2⟩ => ?_⟩
  exact neI_core ok n2.R (n1.rr.ext n2.x) n2.rr (Kd.test n2.k)
theorem t_neI (hgd : X.A.guards = some []) (hu : X.A.units + 65 < cLine ∧ TheW.w = X.w) (ok : SpcOk X "__eq__" tb) (hp : okOp .NotEq b = true) (ha : PE X a (rdE X.K da)) (hb : PE X b (rdE X.K db)) : PT X (.Compare a [.NotEq] [b] pos) (rdT X.K (tNeI tb da db)) := by
  refine (pt_cmpR (opOr (cmr hu .NotEq) (op_neI hgd (by have := hu.1; omega))) ha hb (okOp_marks hp)).wkn fun σ H Q ⟨ι, e, h, R, k⟩ => ?_
  refine ⟨ι, e, h, R, (Kg.bind k).imp fun v H1 ⟨d, h1, ι1, n1⟩ => ?_⟩
  refine ⟨ι1, e, h1, n1.R, (Kg.bind n1.k).imp fun w H2 ⟨d2, h2, ι2, n2⟩ => ?_⟩
  refine neI_core ok n2.R (n1.rr.ext n2.x) n2.rr ?_
  have k2 := n2.k
  revert k2
  cases neI tb d d2 h2 with
  | err _ _ => exact fun k => k
  | bad => exact fun k => k
  | ok c h3 => exact fun k ι' H' v y R' rv => ⟨v, rfl, k ι' H' v y R' rv⟩
end
end Ev
/-! EvZd: len, repr, bool of instances by the class's own text. -/
namespace Ev
open PySem PySem.Spec L2 PyProof.Rows
open PySem.Builtin PySem.Builtin.Str
variable [TheW]

/-- f(x), or the class's own text for it -/
def dSpI (f : F1) (p : D → Bool) (tb : List (Str × Nat × (List D → Hs → Res D))) (a : Den) : Den := fun e h => (a e h).bind fun x h => match insAt h x with
  | none => .of (f x h) h
  | some (c, _, _) => match tb.lookup c with
    | none => .bad
    | some (n, ρ) => (ar n ρ [x] h).bind fun d h => if p d = true then .ok d h else .bad
def isStr : D → Bool
  | .str _ => true
  | _ => false
def isBl : D → Bool
  | .bl _ => true
  | _ => false
def isLn : D → Bool
  | .int i => decide (0 ≤ i ∧ i < 2 ^ 63)
  | _ => false
def fBoo : F1 := fun _ _ => none
section
variable {X : Cx}
def rSpc (X : Cx) (m : Str) (pv : V → Prop) : List V → Hp → VK → Prop := fun xs H Q => ∃ (a C dx g : Addr) (fs : List (Str × V)) (k : Nat) (sp : Sp), xs = [V.ref a] ∧ H a = some (.ins C dx fs) ∧ Meth X.K C m g ∧ GR X.prog X.w X.K X.mg X.base k g sp ∧ Room (k + 2) X.A ∧
  sp [.ref a] H (fun v H' => pv v ∧ Q v H') E0
def pvLn (v : V) : Prop := ∃ n : Int, v = .int n ∧ 0 ≤ n ∧ n < 2 ^ 63
def pvStr (v : V) : Prop := ∃ y : Str, v = .str y
def pvBl (v : V) : Prop := ∃ b : Bool, v = .bl b
theorem cr_lenI (hgd : X.A.guards = some []) : CallR X (.builtin "len") (rSpc X "__len__" pvLn) := by
  intro pins s σ H xs us Q I r z
  obtain ⟨a, C, dx, g, fs, k, sp, rfl, ea, me, FF, hr, hsp⟩ := z
  obtain ⟨u, rfl, ru⟩ := vals1 r
  obtain rfl : u = Value.ref a := ru
  obtain ⟨mA, O, _, _, _, _⟩ := ins_get I.hok ea
  obtain ⟨od, J, _⟩ := O.look
  refine Calls.call_function_entry kind_len plain_len entry_len (args_len1 _) ?_
  unfold Builtin.«len»
  refine wpAny_bind (m := oneArg "len" _) (wpAny_pure ?_)
  refine wpAny_bind (special_own (name := Str.ofString "__len__") I.kIn J me.at_ me.fn ?_)
  refine wpAny_call (codeAny_mono (FF X.A.in1 X.stack s H [.ref a] [.ref a] _ E0 (hr.mono (show k + 1 ≤ k + 2 by omega)).in1 hgd I.env0.in1 (.cons rfl .nil) hsp) fun r s2 hq => ?_)
  match r, hq with
  | .ok (.ret u), hq =>
    obtain ⟨v, H', I3, rv, ⟨n, rfl, h0, h1⟩, q3⟩ := I.after hq
    obtain ⟨t, rfl⟩ := rv
    refine wpAny_bind (wpAny_holding (wpAny_pure ?_))
    refine wpAny_bind (wpAny_letGo ?_)
    show wpAny _ _ (if n < 0 then _ else _) _ _ _
    rw [if_neg (by omega)]
    show wpAny _ _ (if n ≥ 2 ^ 63 then _ else _) _ _ _
    rw [if_neg (by omega)]
    exact wpAny_bind (wpAny_mkInt (wpAny_pure ⟨_, rfl, .int n, H', I3.tok _, ⟨_, rfl⟩, q3⟩))
theorem cr_reprI (hgd : X.A.guards = some []) (hu : X.A.units + 66 < cLine) : CallR X (.builtin "repr") (rSpc X "__repr__" pvStr) := by
  intro pins s σ H xs us Q I r z
  obtain ⟨a, C, dx, g, fs, k, sp, rfl, ea, me, FF, hr, hsp⟩ := z
  obtain ⟨u, rfl, ru⟩ := vals1 r
  obtain rfl : u = Value.ref a := ru
  obtain ⟨mA, O, _, _, _, _⟩ := ins_get I.hok ea
  obtain ⟨od, J, _⟩ := O.look
  refine Calls.call_function_entry F.kind_repr F.plain_repr F.entry_repr (F.args_repr1 _) ?_
  unfold Builtin.«repr»
  refine wpAny_bind (m := oneArg "repr" _) (wpAny_pure ?_)
  refine wpAny_bind (wpAny_cRoomFor (by show X.A.units + 1 < cLine; omega) ?_)
  unfold specialOf
  refine wpAny_bind (wpAny_bind (J.type.here ((PySem.W.looks_findIn I.kIn me.at_).here ?_)))
  show wpAny _ _ (if (some (Value.ref g)).isNone = true then _ else _) _ _ _
  rw [if_neg (by simp)]
  refine wpAny_bind (PySem.W.ifBound_K I.kIn J me.at_ me.fn ?_)
  refine wpAny_call (codeAny_mono (FF X.A.in1 X.stack s H [.ref a] [.ref a] _ E0 (hr.mono (show k + 1 ≤ k + 2 by omega)).in1 hgd I.env0.in1 (.cons rfl .nil) hsp) fun r s2 hq => ?_)
  match r, hq with
  | .ok (.ret u), hq =>
    obtain ⟨v, H', I3, rv, ⟨y, rfl⟩, q3⟩ := I.after hq
    obtain ⟨t, rfl⟩ := rv
    refine wpAny_bind (wpAny_isInstance (typeIs_str _ _ _) isSubtype_str_str ?_)
    first
      | exact wpAny_pure ⟨_, rfl, .str y, H', I3, ⟨_, rfl⟩, q3⟩
      | (rw [if_pos rfl]; exact wpAny_pure ⟨_, rfl, .str y, H', I3, ⟨_, rfl⟩, q3⟩)
      | (simp only [if_true]; exact wpAny_pure ⟨_, rfl, .str y, H', I3, ⟨_, rfl⟩, q3⟩)
theorem cr_boolI (hgd : X.A.guards = some []) : CallR X (.type "bool") (rSpc X "__bool__" pvBl) := by
  intro pins s σ H xs us Q I r z
  obtain ⟨a, C, dx, g, fs, k, sp, rfl, ea, me, FF, hr, hsp⟩ := z
  obtain ⟨u, rfl, ru⟩ := vals1 r
  obtain rfl : u = Value.ref a := ru
  obtain ⟨mA, O, _, _, _, _⟩ := ins_get I.hok ea
  obtain ⟨od, J, _⟩ := O.look
  refine callType_newIn (S := fun A' R s' => s' = s ∧ A' = X.A.in1 ∧ ∀ b s2, EP X pins σ Q (.bool b) s2 → R (.ok (.ret (.bool b))) s2) F.called_bool (by decide +kernel) (F.typeCall_bool_1 _) (F.newCall_bool_1 _) (fun obj => F.args_object_init_2 obj _) F.entry_bool_new (MeetsIn.of_wp fun A' R s' hS => ?_) ⟨rfl, rfl, fun b s2 z => ⟨PySem.typeIs_bool s2 b, z⟩⟩
  obtain ⟨rfl, rfl, hR⟩ := hS
  have htr : ∀ E : Value → Shared → Prop, wpAny (model X.prog X.w) X.A.in1.in1 (truthy (.ref a)) (fun b s2 => EP X pins σ Q (.bool b) s2) E s' := fun E => by
    unfold truthy
    refine wpAny_bind (special_own (name := Str.ofString "__bool__") I.kIn J me.at_ me.fn ?_)
    refine wpAny_call (codeAny_mono (FF X.A.in1.in1 X.stack s' H [.ref a] [.ref a] _ E0 hr.in1.in1 hgd I.env0.in1.in1 (.cons rfl .nil) hsp) fun r s2 hq => ?_)
    match r, hq with
    | .ok (.ret u), hq =>
      obtain ⟨v, H', I3, rv, ⟨b, rfl⟩, q3⟩ := I.after hq
      cases rv
      exact wpAny_pure ⟨.bl b, H', I3, rfl, q3⟩
  unfold Builtin.«bool.__new__»
  have f1 := F.conv_sub_bool
  repeat (any_goals (first | assumption | (with_reducible refine wpAny_bind (wpAny_mono (htr _) (fun b s2 hb => ?_) fun _ _ z => z)) | exact ⟨_, rfl, hR _ _ (by assumption)⟩ | wp_step))
end
/-! ### in expressions -/
section
variable {X : Cx} {a : Expr} {da : Den} {x m : Str} {p pos : Pos} {tb : List (Str × Nat × (List D → Hs → Res D))}
theorem cI_rd {f : F1} {r : List V → Hp → VK → Prop} {pd : D → Bool} {pv : V → Prop} (ok : Ok1 X.K f r) (oki : SpcOk X m tb) (hpv : ∀ ι H d v, pd d = true → Rep X.K ι H d v → pv v) {σ : L2.St} {H : Hp} {Q : VK} (h : rdE X.K (dSpI f pd tb da) σ H Q) :
    tCB (fun xs H Q => r xs H Q ∨ rSpc X m pv xs H Q) (rdA X.K (aCons da aNil)) σ H Q := by
  obtain ⟨ι, e, h, R, k⟩ := h
  refine ⟨ι, e, h, R, ?_⟩
  unfold dSpI at k
  show Ka X.K ι h H e σ ((da e h).bind fun x h => (aNil e h).bind fun xs h => .ok (x :: xs) h) _
  cases q : da e h with
  | err _ _ => rw [q] at k; exact k
  | bad => rw [q] at k; exact k
  | ok d h1 =>
    rw [q] at k
    intro ι' H' vs x' R' rr
    have k1 := Kg.after k x'
    rw [show ∀ f : D → Hs → Res D, (Res.ok d h1).bind f = f d h1 from fun _ => rfl] at k1
    cases rr with
    | cons r1 t =>
    cases t
    cases q1 : insAt h1 d with
    | none =>
      rw [q1] at k1
      obtain ⟨c, q2, k2⟩ := Kd.of_some k1
      exact .inl (ok ι' h1 H' e σ Q d c _ R' q2 r1 k2)
    | some z =>
      obtain ⟨c, ks, ds⟩ := z
      rw [q1] at k1
      dsimp only at k1
      obtain ⟨p, C, dx, fs, rfl, ea, nm, ek, t⟩ := insAt_rep R'.rh q1 r1
      cases q2 : tb.lookup c with
      | none => rw [q2] at k1; exact k1.elim
      | some nr =>
      obtain ⟨n, ρ⟩ := nr
      rw [q2] at k1
      dsimp only at k1
      obtain ⟨C1, g, kk, cf, me, F, hr⟩ := oki c n ρ (lookMem q2)
      obtain rfl := cf.uq C nm
      refine .inr ⟨p, _, dx, g, fs, kk, _, rfl, ea, me, F, hr, ι', h1, [d], R'.rh, .cons r1 .nil, ?_⟩
      revert k1
      cases ar n ρ [d] h1 with
      | err _ _ => exact fun k1 => k1
      | bad => exact fun k1 => k1
      | ok d2 h2 =>
        intro k1 ι2 H2 v y R2 rv
        have k1 : Kd X.K ι' h1 H' e σ (if pd d2 = true then .ok d2 h2 else .bad) Q := k1
        split at k1
        · rename_i hp
          exact ⟨hpv _ _ _ _ hp rv, k1 ι2 H2 _ y ⟨R2, R'.re.ext y⟩ rv⟩
        · exact k1.elim
theorem s_lenI (hgd : X.A.guards = some []) (ok : SpcOk X "__len__" tb) (hg : Gl X "len") (hm : X.mg "len" = none) (ha : PE X a (rdE X.K da)) (pa : plain a = true) : PE X (.Call (.Name "len" p) [a] [] pos) (rdE X.K (dSpI fLen isLn tb da)) :=
  (pe_callB (call_len.or (cr_lenI hgd)) hg hm PySem.boot_len (a_one (es := []) ha pa) (by decide) (by decide) (star_of pa) rfl).wkn fun _ _ _ h => cI_rd ok_len ok (fun _ _ d v k r => by
    cases d <;> try cases k
    cases r
    have k := of_decide_eq_true k
    exact ⟨_, rfl, k.1, k.2⟩) h
theorem s_reprI (hgd : X.A.guards = some []) (hu : X.A.units + 66 < cLine) (hw : TheW.w = X.w) (ok : SpcOk X "__repr__" tb) (hg : Gl X "repr") (hm : X.mg "repr" = none) (ha : PE X a (rdE X.K da)) (pa : plain a = true) : PE X (.Call (.Name "repr" p) [a] [] pos) (rdE X.K (dSpI fRepr isStr tb da)) :=
  (pe_callB ((cr_reprT hw hgd hu).or (cr_reprI hgd hu)) hg hm (by decide +kernel) (a_one (es := []) ha pa) (by decide) (by decide) (star_of pa) rfl).wkn fun _ _ _ h => cI_rd ok_repr ok (fun _ _ d v k r => by
    cases d <;> try cases k
    cases r
    exact ⟨_, rfl⟩) h
theorem s_boolI (hgd : X.A.guards = some []) (ok : SpcOk X "__bool__" tb) (hg : Gl X "bool") (hm : X.mg "bool" = none) (ha : PE X a (rdE X.K da)) (pa : plain a = true) : PE X (.Call (.Name "bool" p) [a] [] pos) (rdE X.K (dSpI fBoo isBl tb da)) :=
  (pe_callTy ((show CallR X (.type "bool") (fun _ _ _ => False) from fun _ _ _ _ _ _ _ _ _ z => z.elim).or (cr_boolI hgd)) hg hm (by decide +kernel) (a_one (es := []) ha pa) (by decide) (by decide) (star_of pa) rfl).wkn fun _ _ _ h => cI_rd (f := fBoo) (fun _ _ _ _ _ _ _ _ _ _ q => by cases q) ok (fun _ _ d v k r => by
    cases d <;> try cases k
    cases r
    exact ⟨_, rfl⟩) h
end
end Ev
/-! EvZe: f-strings; C.m(k = v). -/
namespace Ev
open PySem PySem.Spec L2 PyProof.Rows
variable [TheW]

/-! ### f-strings -/
def fmtD (x : D) (h : Hs) : Res D := match x with
  | .str y => if y.length ≤ sizeLine then .ok (.str y) h else .bad
  | .int i => if i.natAbs.log2 < 1920 then .ok (.str (toString i)) h else .bad
  | _ => .bad
/-- {x} -/
def dFmt (a : Den) : Den := fun e h => (a e h).bind fmtD
def dJs : List Den → Str → Den
  | [], acc => fun _ h => .ok (.str acc) h
  | d :: ds, acc => fun e h => (d e h).bind fun x h => match x with
    | .str y => if (acc ++ y).length ≤ sizeLine then dJs ds (acc ++ y) e h else .bad
    | _ => .bad
section
variable {X : Cx} {a : Expr} {da : Den} {pos : Pos}
theorem s_fmt (ha : PE X a (rdE X.K da)) : PE X (.FormattedValue a (-1) none pos) (rdE X.K (dFmt da)) := by
  refine (pe_fmt ha).wkn fun σ H Q ⟨ι, e, h, R, k⟩ => ?_
  refine ⟨ι, e, h, R, (Kg.bind k).imp fun v H1 ⟨d, h1, ι1, n1⟩ => ?_⟩
  have k1 := n1.k
  have r1 := n1.rr
  unfold fmtD at k1
  split at k1
  · cases r1
    split at k1
    · exact .inl ⟨_, rfl, by assumption, k1.here n1.R (.str _)⟩
    · exact k1.elim
  · cases r1
    split at k1
    · exact .inr ⟨_, rfl, by assumption, k1.here n1.R (.str _)⟩
    · exact k1.elim
  · exact k1.elim
theorem js_rd : ∀ (ds : List Den) (acc : Str) {ι : Io} {e : En} {h : Hs} {σ : L2.St} {H : Hp} {Q : VK}, Rl X.K ι e h σ H → Kd X.K ι h H e σ (dJs ds acc e h) Q → tJs (ds.map (rdE X.K)) acc σ H fun out H1 => Q (.str out) H1
  | [], acc, ι, e, h, σ, H, Q, R, k => k.here R (.str _)
  | d :: ds, acc, ι, e, h, σ, H, Q, R, k => by
    have k : Kd X.K ι h H e σ ((d e h).bind fun x h => match x with
      | .str y => if (acc ++ y).length ≤ sizeLine then dJs ds (acc ++ y) e h else .bad
      | _ => .bad) Q := k
    refine ⟨ι, e, h, R, (Kg.bind k).imp fun v H1 ⟨x, h1, ι1, n1⟩ => ?_⟩
    have k1 := n1.k
    have r1 := n1.rr
    split at k1
    · cases r1
      split at k1
      · exact ⟨_, rfl, by assumption, js_rd ds _ n1.R k1⟩
      · exact k1.elim
    · exact k1.elim
theorem s_js {v1 v2 : Expr} {rest : List Expr} {ds : List Den} (h : PJ X (v1 :: v2 :: rest) (ds.map (rdE X.K))) : PE X (.JoinedStr (v1 :: v2 :: rest) pos) (rdE X.K (dJs ds Str.empty)) :=
  (pe_joined h).wkn fun σ H Q ⟨ι, e, h, R, k⟩ => js_rd ds Str.empty R k
end
def trF1 (r : Expr → Option Den) : Expr → Option Den
  | .FormattedValue a c none _ => if c = -1 then (r a).map dFmt else none
  | .Constant (.str s) _ _ => some (dC (.str s))
  | _ => none
def trFs (r : Expr → Option Den) : List Expr → Option (List Den)
  | [] => some []
  | e :: es => bind2 (trF1 r e) (trFs r es) List.cons
def trJs (r : Expr → Option Den) (es : List Expr) : Option Den := if 2 ≤ es.length then (trFs r es).map fun ds => dJs ds Str.empty else none
section
variable {X : Cx} {r : Expr → Option Den} {pos : Pos}
theorem f1_ok (hr : ∀ e d, r e = some d → PE X e (rdE X.K d)) {e : Expr} {d : Den} (h : trF1 r e = some d) : PE X e (rdE X.K d) := by
  unfold trF1 at h
  split at h
  · split at h
    · rename_i hc
      subst hc
      obtain ⟨x, q, rfl⟩ := Option.map_eq_some_iff.mp h
      exact s_fmt (hr _ _ q)
    · cases h
  · cases h; exact s_str
  · cases h
theorem bind2_okZ {α β γ : Type} {x : Option α} {y : Option β} {f : α → β → γ} {c : γ} (h : bind2 x y f = some c) : ∃ a b, x = some a ∧ y = some b ∧ f a b = c := by
  cases x with
  | none => cases h
  | some a =>
    cases y with
    | none => cases h
    | some b => cases h; exact ⟨a, b, rfl, rfl, rfl⟩
theorem fs_ok (hr : ∀ e d, r e = some d → PE X e (rdE X.K d)) : ∀ {es : List Expr} {ds : List Den}, trFs r es = some ds → PJ X es (ds.map (rdE X.K))
  | [], ds, h => by cases h; exact .nil
  | e :: es, ds, h => by
    obtain ⟨x, y, q1, q2, rfl⟩ := bind2_okZ (show bind2 (trF1 r e) (trFs r es) List.cons = some ds from h)
    exact .cons (f1_ok hr q1) (fs_ok hr q2)
theorem js_ok (hr : ∀ e d, r e = some d → PE X e (rdE X.K d)) {es : List Expr} {d : Den} (h : trJs r es = some d) : PE X (.JoinedStr es pos) (rdE X.K d) := by
  unfold trJs at h
  split at h
  · rename_i hl
    obtain ⟨ds, q, rfl⟩ := Option.map_eq_some_iff.mp h
    match es, hl with
    | v1 :: v2 :: rest, _ => exact s_js (fs_ok hr q)
  · cases h
end
/-! ### C.m(k = v, ..) -/
def dCmK (c : Str) (n : Nat) (ρ : List D → Hs → Res D) (N : Nat) (pm : List Nat) (a : DenA) : Den := fun e h => (a e h).bind fun ds h => if ds.length = N then arK n pm ρ (.cls c :: ds) h else .bad
structure CmKOk (X : Cx) (c m : Str) (kn : List Str) (pm : List Nat) (n : Nat) (ρ : List D → Hs → Res D) : Prop where
  ex : ∃ C mc q g k, ClsF X.K c C ∧ X.mg c = some (.ref C) ∧ ClX.CRead X.K C mc ∧ ClX.CMet X.K C mc m q g ∧ GRK X.prog X.w X.K X.mg X.base k g kn (spA X.K (arK n pm ρ)) ∧ Room k X.A
section
variable {X : Cx} {kws : List Keyword} {pos apos p : Pos} {dA : DenA} {m c : Str} {kn : List Str} {pm : List Nat} {n : Nat} {ρ : List D → Hs → Res D} {C g : Addr}
theorem callwith_cmC {q : Addr} {Q : Value → Shared → Prop} {E : Value → Shared → Prop} {A : Around} {s : Shared} (hf : PySem.W.fnIn X.K g = true)
    (hall : (backToKw pos (keywordEach kws X.env)).all (·.1.isSome) = true)
    (h : wpAny (model X.prog X.w) A (evalAll ((backToKw pos (keywordEach kws X.env)).map (·.2))) (fun vs s₁ => PySem.W.MethP X.K q g (.ref C) s₁.heap ∧ wpAny (model X.prog X.w) A (call (.ref q) ([] ++ []) (((backToKw pos (keywordEach kws X.env)).filterMap (·.1)).zip vs)) Q E s₁) E s)
    (hplain : ((backTo pos (starEach [] X.env)).any (·.1) || (backToKw pos (keywordEach kws X.env)).any (·.1.isNone)) = false) :
    wpAny (model X.prog X.w) A (callWith pos (.ref q) [] (backTo pos (starEach [] X.env)) (backToKw pos (keywordEach kws X.env))) Q E s :=
  PySem.W.callWith_of hplain (PySem.W.keeps_M hf) (evalArgs_kw2_nil hall h)
theorem s_cmK (hgd : X.A.guards = some []) (ok : CmKOk X c m kn pm n ρ) (hg : Gl X c) (hd : (c == ("__debug__" : Str)) = false) (ha : PK X kws (rdA X.K dA)) (hn : kws.map (·.arg) = kn.map some) (hf : okMethK (.Name c p) kws apos pos = true) :
    PE X (.Call (.Attribute (.Name c p) m apos) [] kws pos) (rdE X.K (dCmK c n ρ kn.length pm dA)) := by
  obtain ⟨a1, a2, a3⟩ := kw_some (pos := pos) (env := X.env) hn
  obtain ⟨C, mc, q, g, k, cf, hm, rd, cm, F, hr⟩ := ok.ex
  refine ⟨fun pins s σ H Q I h => ?_⟩
  obtain ⟨ι, e, h, R, kk⟩ := h
  refine PySem.W.methodCall_KW (ld_glob I hg hm ?_ hd) (meth_eqK hn hf)
  refine ClX.getmethcm_ok I rd cm fun s2 I2 => ?_
  refine callwith_cmC (C := C) cm.fi a1 (thn (ha.run pos _ s2 σ H _ I2 ⟨ι, e, h, R, Kg.bind (RR' := Rep X.K) kk⟩) fun us s3 ⟨vs, H2, I3, rv, ds, h1, ι1, n1⟩ => ⟨⟨ClX.pin_at I3, I3.kIn⟩, ?_⟩) (by rw [a2]; rfl)
  rw [a3]
  have k2 := n1.k
  split at k2
  · rename_i hl
    refine thn (wpAny_call (PySem.W.method_call (ClX.pin_at I3) (runRK (u := .ref C) (us := us) (vs := .ref C :: vs) F hr hgd I3 (.cons rfl rv) (by rw [← rv.length, ← n1.rr.length]; exact hl) ⟨ι1, h1, .cls c :: ds, n1.R.rh, .cons (.cls cf.nm) n1.rr, kc_of n1.R.re k2⟩))) fun _ _ y => ClX.unpinE y
  · exact k2.elim
end
end Ev
/-! EvX: xs[::-1], split, join, stars among arguments. -/
namespace HT
open PySem PySem.Spec PyProof.Rows
variable {prog : Program} {w : World} {A : Around} {E : Value → Shared → Prop} {s : Shared}
theorem places_rev (n : Nat) : Builtin.Slice.slicePlaces ((n : Int) - 1) (-1) (-1) = n := by
  unfold Builtin.Slice.slicePlaces
  rw [if_neg (by decide)]
  split
  · rw [show -(-1 : Int) = 1 from rfl, Int.ediv_one]; omega
  · omega
theorem sliceApplied_rev {sl : Addr} {vl vu : Value} {vs : Value} {n : Nat} {Q : Int × Int × Nat → Shared → Prop} (hs : s.heap.IsSliceOf sl vl vu vs) (pl : IsPart vl none) (pu : IsPart vu none) (ps : IsPart vs (some (-1)))
    (h : Q ((n : Int) - 1, -1, n) s) : wpAny (model prog w) A (Builtin.Slice.sliceApplied (.ref sl) (pure (n : Int))) Q E s := by
  obtain ⟨os, hos, hcs, hds⟩ := id hs
  unfold Builtin.Slice.sliceApplied Builtin.Slice.sliceFields
  refine wpAny_bind (wpAny_bind (wpAny_field hos hds (x := vl) rfl (wpAny_bind (wpAny_field hos hds (x := vu) rfl (wpAny_bind (wpAny_field hos hds (x := vs) rfl (wpAny_pure ?_)))))))
  refine wpAny_bind (slicePart_ ps ?_)
  show wpAny _ _ (if ((-1 : Int) == 0) = true then _ else _) _ _ s
  rw [if_neg (by decide)]
  refine wpAny_bind (slicePart_ pl (wpAny_bind (slicePart_ pu (wpAny_bind (wpAny_pure ?_)))))
  show wpAny _ _ (pure ((n : Int) - 1, (-1 : Int), Builtin.Slice.slicePlaces ((n : Int) - 1) (-1) (-1))) _ _ s
  rw [places_rev]
  exact wpAny_pure h
theorem fm_map {α β : Type} {f : α → Option β} {g : α → β} : ∀ {l : List α}, (∀ m ∈ l, f m = some (g m)) → l.filterMap f = l.map g
  | [], _ => rfl
  | x :: l, h => by rw [List.filterMap_cons, h x (List.mem_cons_self ..), fm_map fun m hm => h m (List.mem_cons_of_mem _ hm)]; rfl
theorem pick_rev (xs : Array Value) : ((List.range xs.size).filterMap fun (m : Nat) => xs[(((xs.size : Int) - 1) + (m : Int) * (-1)).toNat]?) = xs.toList.reverse := by
  apply List.ext_getElem?
  intro i
  have e : ((List.range xs.size).filterMap fun (m : Nat) => xs[(((xs.size : Int) - 1) + (m : Int) * (-1)).toNat]?) = (List.range xs.size).map fun m => (xs[xs.size - 1 - m]?).getD default := by
    refine fm_map fun m hm => ?_
    have hm := List.mem_range.mp hm
    have e2 : (((xs.size : Int) - 1) + (m : Int) * (-1)).toNat = xs.size - 1 - m := by omega
    rw [e2, Array.getElem?_eq_getElem (by omega)]
    rfl
  rw [e, List.getElem?_map]
  by_cases hi : i < xs.size
  · rw [List.getElem?_range hi, List.getElem?_reverse (by rw [Array.length_toList]; exact hi), Array.length_toList, Array.getElem?_toList]
    simp only [Option.map_some]
    rw [Array.getElem?_eq_getElem (by omega)]
    rfl
  · rw [List.getElem?_eq_none (by rw [List.length_range]; omega), List.getElem?_eq_none (by rw [List.length_reverse, Array.length_toList]; omega)]
    rfl
theorem getItem_tuple_rev {t sl : Addr} {items : Array Value} {vl vu vs : Value} {Q : Value → Shared → Prop} (ht : IsTup s.heap t items) (hs : s.heap.IsSliceOf sl vl vu vs) (pl : IsPart vl none) (pu : IsPart vu none) (ps : IsPart vs (some (-1)))
    (h : Q (.ref s.heap.objs.size) { s with heap := s.heap.push { cls := .type "tuple", data := .seq items.toList.reverse.toArray } })
    (hsz : items.size ≤ sizeLine) : wpAny (model prog w) A (getItem (.ref t) (.ref sl)) Q E s := by
  have htake : sizeOk (.seq items.toList.reverse.toArray) := by
    show items.toList.reverse.toArray.size ≤ sizeLine
    rw [List.size_toArray, List.length_reverse, Array.length_toList]
    exact hsz
  obtain ⟨os, hos, hcs, hds⟩ := id hs
  have hTs : s.TypeIs (.ref sl) "slice" := ⟨os, hos, hcs⟩
  unfold getItem
  try with_reducible refine wpAny_holding ?_
  first | refine wpAny_bind (wpAny_pure ?_) | skip
  refine wpAny_bind (wpAny_sequenceKey ht.typeIs (by decide) ?_)
  refine wpAny_bind (wpAny_callSpecial?_slot (name := Str.ofString "__getitem__") ht.typeIs PyProof.Rows.slot_tuple_getitem
    (wpAny_call_entry PyProof.Rows.slot_tuple_getitem ht.typeIs entry_tuple_getitem ?_ (args_tuple_getitem _ _)))
  show wpAny _ _ (Builtin.Tuple.tupleItemsOf (.ref t) >>= _) _ _ s
  refine wpAny_bind (tupleItemsOf_ ht ?_)
  refine wpAny_bind (wpAny_typeOf hTs ?_)
  rw [if_pos (by decide)]
  refine wpAny_bind (sliceApplied_rev hs pl pu ps ?_)
  show wpAny _ _ (if ((((items.size : Int) - 1) == 0 && (-1 : Int) == 1 && items.size == items.size)) = true then _ else _) _ _ s
  rw [if_neg (by rw [show ((-1 : Int) == 1) = false from rfl, Bool.and_false, Bool.false_and]; decide), pick_rev]
  first
    | exact wpAny_bind (m := Builtin.Tuple.tupleExact _) (wpAny_newObj_type (wpAny_pure ⟨_, rfl, wpAny_pure h⟩) htake)
    | exact wpAny_bind (m := Builtin.Tuple.tupleExact _) (wpAny_newObj_type (wpAny_bind (wpAny_pure (wpAny_pure ⟨_, rfl, wpAny_pure h⟩))) htake)
    | exact wpAny_bind (wpAny_bind (m := Builtin.Tuple.tupleExact _) (wpAny_newObj_type (wpAny_pure (wpAny_pure ⟨_, rfl, wpAny_pure h⟩)) htake))
    | exact wpAny_bind (wpAny_bind (m := Builtin.Tuple.tupleExact _) (wpAny_newObj_type (wpAny_pure ⟨_, rfl, wpAny_pure h⟩) htake))
end HT
namespace Ev
open PySem PySem.Spec L2 PyProof.Rows
variable [TheW]
section
variable {X : Cx} {a o e : Expr} {es : List Expr} {pos apos p : Pos} {da db dO : Den} {dA : DenA}
def tRev (K : PySem.W.Frag) (te : TE) : TE := fun σ H Q => te σ H fun x H1 => ∃ a xs, x = .ref a ∧ ((SqL K H1 a xs ∧ ∀ p, H1 p = none → Q (.ref p) (upd H1 p (.lst xs.reverse))) ∨ (SqT K H1 a xs ∧ ∀ p, H1 p = none → Q (.ref p) (upd H1 p (.tup xs.reverse))))
theorem pe_rev {te : TE} {k : Nat} {p1 p2 p3 : Pos} (he : PE X e te) : PE X (.Subscript e (.Slice none none (some (.UnaryOp .USub (.Constant (.int 1) k p1) p2)) p3) pos) (tRev X.K te) := by
  refine ⟨fun pins s σ H Q I h => ?_⟩
  refine Subscript_ (thn (he.run pins s σ H _ I h) fun v s1 ⟨x, H1, I1, r1, q1⟩ => ?_)
  obtain ⟨a, xs, ex, q⟩ := q1
  subst ex
  cases r1
  have hst : PO X (some (.UnaryOp .USub (.Constant (.int 1) k p1) p2)) (tPart (tUn (rU fun i => .int (-i)) (tC (.int 1)))) := po_some (pe_un un_neg pe_int)
  refine wpAny_Slice (thn (po_none.run pins s1 σ H1 (fun o H2 => o = none ∧ H2 = H1) I1 ⟨rfl, rfl⟩) fun vl s2 ⟨l, H2, I2, pl, el, e2⟩ => ?_)
  subst el e2
  refine thn (po_none.run pins s2 σ H2 (fun o H3 => o = none ∧ H3 = H2) I2 ⟨rfl, rfl⟩) fun vu s3 ⟨u, H3, I3, pu, eu, e3⟩ => ?_
  subst eu e3
  refine thn (hst.run pins s3 σ H3 (fun o H4 => o = some (-1) ∧ H4 = H3) I3 ⟨1, rfl, -1, rfl, rfl, rfl⟩) fun vs s4 ⟨o, H4, I4, ps, eo, e4⟩ => ?_
  subst eo e4
  have I5 : Inv X pins σ H4 { s4 with heap := s4.heap.push { cls := .type "slice", data := .fields #[vl, vu, vs] } } := I4.kept (t' := s4.toks) fun b ob q => Heap.get?_push_of_some _ q
  show wpAny (model X.prog X.w) X.A (subscriptTail e (.Slice none none (some (.UnaryOp .USub (.Constant (.int 1) k p1) p2)) p3) (.ref a) (.ref s4.heap.objs.size)) (EP X pins σ Q) X.xe { s4 with heap := s4.heap.push { cls := .type "slice", data := .fields #[vl, vu, vs] } }
  rcases q with ⟨hx, q⟩ | ⟨hx, q⟩
  · obtain ⟨its, r, ht, hz⟩ := I5.list hx
    have hlen := r.length
    refine tail_any (ops := [.ref a, .ref s4.heap.objs.size]) ht.isList.typeIs (PySem.slot_list_getitem.lookup) ?_ (by with_unfolding_all rfl)
    refine wpAny_getItem_list_slice ht.isList (Heap.IsSliceOf.new _ vl vu vs) pl pu ps (by decide) ?_ (by rw [List.size_toArray]; omega)
    rw [PySem.W.krv_pick]
    refine ⟨.ref _, _, I5.laid (t' := s4.toks) (o := .lst xs.reverse) (fun b ob q => Heap.get?_push_of_some _ q) (Nat.le_refl _) ?_, rfl, q _ (I5.hok.fresh (Nat.le_refl _))⟩
    exact ⟨by rw [List.length_reverse]; exact hz, _, 0, r.reverse, Heap.get?_push_size _ rfl⟩
  · obtain ⟨its, r, ht, hz⟩ := I5.tuple hx
    have hlen := r.length
    refine tail_any (ops := [.ref a, .ref s4.heap.objs.size]) ht.typeIs (PyProof.Rows.slot_tuple_getitem.lookup) ?_ (by with_unfolding_all rfl)
    refine HT.getItem_tuple_rev ht (Heap.IsSliceOf.new _ vl vu vs) pl pu ps ?_ (by rw [List.size_toArray]; omega)
    refine ⟨.ref _, _, I5.laid (t' := s4.toks) (o := .tup xs.reverse) (fun b ob q => Heap.get?_push_of_some _ q) (Nat.le_refl _) ?_, rfl, q _ (I5.hok.fresh (Nat.le_refl _))⟩
    exact ⟨by rw [List.length_reverse]; exact hz, its.reverse, r.reverse, ⟨_, Heap.get?_push_size _ rfl, rfl, _, rfl⟩⟩
def revD (h : Hs) : D → Option D
  | .tup xs => some (.tup xs.reverse)
  | x => (asL h x).map fun xs => .lst xs.reverse
def dRev (a : Den) : Den := fun e h => (a e h).bind fun x h => .of (revD h x) h
theorem RepL.reverse {K : PySem.W.Frag} {ι : Io} {H : Hp} : ∀ {ds : List D} {vs : List V}, RepL K ι H ds vs → RepL K ι H ds.reverse vs.reverse
  | _, _, .nil => .nil
  | _, _, .cons r t => by
    rw [List.reverse_cons, List.reverse_cons]
    exact (RepL.reverse t).append (.cons r .nil)
theorem s_rev {k : Nat} {p1 p2 p3 : Pos} (ha : PE X a (rdE X.K da)) : PE X (.Subscript a (.Slice none none (some (.UnaryOp .USub (.Constant (.int 1) k p1) p2)) p3) pos) (rdE X.K (dRev da)) :=
  (pe_rev ha).wkn fun σ H Q ⟨ι, e, h, R, k⟩ => ⟨ι, e, h, R, (Kg.bind k).imp fun v H1 ⟨d, h1, ι1, n1⟩ => by
    obtain ⟨c, q, kk⟩ := Kd.of_some n1.k
    unfold revD at q
    split at q
    · cases q
      have r1 := n1.rr
      cases r1 with
      | tup f t => exact ⟨_, _, rfl, .inr ⟨f.sq, fun p hp => kk.new n1.R hp (.newT n1.R.rh hp t.reverse)⟩⟩
    · cases q1 : asL h1 d with
      | none => rw [q1] at q; cases q
      | some xs =>
        rw [q1] at q; cases q
        obtain ⟨b, vs, rfl, sq, t⟩ := asL_rep n1.R.rh q1 n1.rr
        exact ⟨_, _, rfl, .inl ⟨sq, fun p hp => kk.new n1.R hp (.newL n1.R.rh hp t.reverse)⟩⟩⟩

/-! ### methods of texts -/
def strL : List D → Option (List Str) := mapO asS
theorem strL_rep {K : PySem.W.Frag} {ι : Io} {H : Hp} : ∀ {ds : List D} {vs : List V} {ys : List Str}, RepL K ι H ds vs → strL ds = some ys → vs = ys.map V.str
  | _, _, _, .nil, q => by cases q; rfl
  | d :: ds, v :: vs, ys, .cons r t, q => by
    unfold strL mapO at q
    cases d <;> try cases q
    rename_i b
    cases r
    cases q2 : mapO asS ds with
    | none => rw [show mapO asS ds = none from q2] at q; cases q
    | some cs =>
      rw [q2] at q; cases q
      rw [strL_rep t (show strL ds = some cs from q2)]; rfl
theorem repl_strs {K : PySem.W.Frag} {ι : Io} {H : Hp} : ∀ ys : List Str, RepL K ι H (ys.map D.str) (ys.map V.str)
  | [] => .nil
  | y :: ys => .cons (.str y) (repl_strs ys)
def splitD (x y : D) : Option D := match asS x with
  | none => none
  | some a => match asS y with
    | none => none
    | some b => if (b.length == 0) = false then if a.length + 2 ≤ sizeLine then some (.lst ((Txt.split a b).map D.str)) else none else none
def joinD (h : Hs) (x y : D) : Option D := match asS x with
  | none => none
  | some a => match starD h y with
    | none => none
    | some ds => match strL ds with
      | none => none
      | some ys => if (ys.map (·.length)).sum + ys.length * a.length ≤ 16777216 then some (.str (Txt.join a ys)) else none
/-- x.m(y), x a text -/
def dTm (g : Hs → D → D → Option D) (o a : Den) : Den := fun e h => (o e h).bind fun x h => match asS x with
  | none => .bad
  | some _ => (a e h).bind fun y h => .of (g h x y) h
theorem asS_eq {x : D} {z : Str} (q : asS x = some z) : x = .str z := by cases x <;> cases q; rfl
theorem tm_rd {K : PySem.W.Frag} {r : V → List V → Hp → VK → Prop} {g : Hs → D → D → Option D} {σ : L2.St} {H : Hp} {Q : VK} (ok : ∀ (ι : Io) (e : En) (h : Hs) (H : Hp) (z : Str) (y d : D) (w : V), Rl K ι e h σ H → g h (.str z) y = some d → Rep K ι H y w → Kd K ι h H e σ (.ok d h) Q → r (.str z) [w] H Q) (hh : rdE K (dTm g dO da) σ H Q) : tM1 r (rdE K dO) (rdE K da) σ H Q := by
  obtain ⟨ι, e, h, R, k⟩ := hh
  refine ⟨ι, e, h, R, (Kg.bind k).imp fun v H1 ⟨x, h1, ι1, n1⟩ => ?_⟩
  have k1 := n1.k
  cases q : asS x with
  | none => rw [q] at k1; exact k1.elim
  | some z =>
    rw [q] at k1
    dsimp only at k1
    have ex := asS_eq q
    subst ex
    have r1 := n1.rr
    cases r1
    refine ⟨⟨_, rfl⟩, ι1, e, h1, n1.R, (Kg.bind k1).imp fun w H2 ⟨y, h2, ι2, n2⟩ => ?_⟩
    obtain ⟨d, q2, k2⟩ := Kd.of_some n2.k
    exact ok ι2 e h2 H2 z y d w n2.R q2 n2.rr k2
theorem s_split (ho : PE X o (rdE X.K dO)) (ha : PE X a (rdE X.K da)) (pa : plain a = true) (no : nosuper o = true) (hl : (apos.endLine == pos.line) = true) : PE X (.Call (.Attribute o "split" apos) [a] [] pos) (rdE X.K (dTm (fun _ => splitD) dO da)) :=
  (pe_split ho ha (star_of pa) (abase no) hl).wkn fun σ H Q h => tm_rd (fun ι e h H z y d w R q rw_ k => by
    unfold splitD at q
    rw [show asS (D.str z) = some z from rfl] at q
    dsimp only at q
    cases q1 : asS y with
    | none => rw [q1] at q; cases q
    | some b =>
      rw [q1] at q
      dsimp only at q
      have ey := asS_eq q1
      subst ey
      cases rw_
      split at q
      · split at q
        · cases q
          exact ⟨z, b, rfl, rfl, by assumption, by assumption, fun p hp => k.new R hp (.newL R.rh hp (repl_strs _))⟩
        · cases q
      · cases q) h
theorem s_join (ho : PE X o (rdE X.K dO)) (ha : PE X a (rdE X.K da)) (pa : plain a = true) (no : nosuper o = true) (hl : (apos.endLine == pos.line) = true) : PE X (.Call (.Attribute o "join" apos) [a] [] pos) (rdE X.K (dTm joinD dO da)) :=
  (pe_join ho ha (star_of pa) (abase no) hl).wkn fun σ H Q h => tm_rd (fun ι e h H z y d w R q rw_ k => by
    unfold joinD at q
    rw [show asS (D.str z) = some z from rfl] at q
    dsimp only at q
    cases q1 : starD h y with
    | none => rw [q1] at q; cases q
    | some ds =>
      rw [q1] at q
      dsimp only at q
      cases q2 : strL ds with
      | none => rw [q2] at q; cases q
      | some ys =>
        rw [q2] at q
        dsimp only at q
        split at q
        · cases q
          obtain ⟨b, vs, rfl, sq, t⟩ := starD_rep R.rh q1 rw_
          rw [strL_rep t q2] at sq
          exact ⟨z, b, ys, rfl, rfl, sq.symm, by assumption, k.here R (.str _)⟩
        · cases q) h

/-! ### xs.index(k), xs a list of ints, k among them -/
def idxD (h : Hs) (x y : D) : Option D := match asL h x with
  | none => none
  | some xs => match mapO asI xs with
    | none => none
    | some ns => match asI y with
      | none => none
      | some k => match ns.findIdx? (fun i => i == k) with
        | none => none
        | some j => some (.int (j : Nat))
def dIdx (o a : Den) : Den := fun e h => (o e h).bind fun x h => orBad (asL h x) fun _ => (a e h).bind fun y h => .of (idxD h x y) h
theorem asI_eq {x : D} {i : Int} (q : asI x = some i) : x = .int i := by cases x <;> cases q; rfl
theorem s_idx (ho : PE X o (rdE X.K dO)) (ha : PE X a (rdE X.K da)) (pa : plain a = true) (no : nosuper o = true) (hl : (apos.endLine == pos.line) = true) : PE X (.Call (.Attribute o "index" apos) [a] [] pos) (rdE X.K (dIdx dO da)) := by
  refine (pe_bm PySem.F.plainAttrs_list PySem.F.slot_list_index PySem.F.type_list_index mt_index ho (pa_cons ha pa_nil (star_of pa)) (abase no) (by rw [star_of pa]; rfl) hl (star_of pa) rfl).wkn fun σ H Q ⟨ι, e, h, R, k⟩ => ⟨ι, e, h, R, (Kg.bind k).imp fun v H1 ⟨x, h1, ι1, n1⟩ => ?_⟩
  have k1 := n1.k
  cases q1 : asL h1 x with
  | none => rw [q1] at k1; exact k1.elim
  | some xs =>
  rw [q1] at k1
  obtain ⟨b, vs, rfl, sq, t⟩ := asL_rep n1.R.rh q1 n1.rr
  refine ⟨.inl ⟨rfl, vs, sq⟩, ι1, e, h1, n1.R, (Kg.bind (RR := Rep X.K) (show Kd X.K ι1 h1 H1 e σ ((da e h1).bind fun y h => .of (idxD h x y) h) Q from k1)).imp fun u H2 ⟨y, h2, ι2, n2⟩ => ?_⟩
  obtain ⟨d, q2, k2⟩ := Kd.of_some n2.k
  unfold idxD at q2
  cases q3 : asL h2 x with
  | none => rw [q3] at q2; cases q2
  | some xs' =>
  rw [q3] at q2
  dsimp only at q2
  obtain ⟨b', vs', eb, sq', t'⟩ := asL_rep n2.R.rh q3 (n1.rr.ext n2.x)
  cases eb
  cases q4 : mapO asI xs' with
  | none => rw [q4] at q2; cases q2
  | some ns =>
  rw [q4] at q2
  dsimp only at q2
  cases q5 : asI y with
  | none => rw [q5] at q2; cases q2
  | some i =>
  rw [q5] at q2
  dsimp only at q2
  have ey := asI_eq q5
  subst ey
  have r2 := n2.rr
  cases r2
  cases q6 : ns.findIdx? (fun j => j == i) with
  | none => rw [q6] at q2; cases q2
  | some j =>
  rw [q6] at q2
  cases q2
  have ev := rep_ints t' q4
  subst ev
  obtain ⟨hj, e1, e2⟩ := List.findIdx?_eq_some_iff_getElem.mp q6
  refine ⟨b, ns.map V.int, .int i, j, .int ns[j], rfl, rfl, sq', rfl, ?_, by rw [List.getElem?_map, List.getElem?_eq_getElem hj]; rfl, e1, ?_, k2.here n2.R (.int _)⟩
  · rw [List.all_map, List.all_eq_true]
    intro z _; rfl
  · intro m z hm ez
    rw [List.getElem?_map, List.getElem?_eq_getElem (by omega)] at ez
    cases ez
    have := e2 m hm
    show (ns[m] == i) = false
    simpa using this

/-! ### a star among arguments, items -/
def aStar (a : Den) (r : DenA) : DenA := fun e h => (a e h).bind fun x h => match starD h x with
  | none => .bad
  | some ys => (r e h).bind fun xs h => .ok (ys ++ xs) h
theorem s_star {dr : DenA} (ha : PE X a (rdE X.K da)) (hr : PA X es (rdA X.K dr)) : PA X (.Starred a p :: es) (rdA X.K (aStar da dr)) :=
  (StX.pa_star ha hr rfl).wkn fun σ H Q ⟨ι, e, h, R, k⟩ => ⟨ι, e, h, R, (Kg.bind k).imp fun v H1 ⟨d, h1, ι1, n1⟩ => by
    have k1 := n1.k
    cases q : starD h1 d with
    | none => rw [q] at k1; exact k1.elim
    | some ys =>
      rw [q] at k1
      dsimp only at k1
      obtain ⟨b, vs, rfl, sq, t⟩ := starD_rep n1.R.rh q n1.rr
      refine ⟨b, vs, rfl, sq, ι1, e, h1, n1.R, (Kg.bind k1).imp fun us H2 ⟨ds, h2, ι2, n2⟩ => ?_⟩
      exact n2.k.here n2.R ((t.ext n2.x).append n2.rr)⟩
end
end Ev
/-! EvDb: new dicts. -/
namespace Ev
open PySem PySem.Spec L2
section
variable {X : Cx} {a b : Expr} {pos : Pos} {ta tb : TE}
/-- {a: b} -/
def tDisp1 (w : World) (K : PySem.W.Frag) (ta tb : TE) : TE := fun σ H Q => ∀ p ob0, H p = none → DEnt w ob0 [] → (p == sysModules) = false → ta σ (upd H p (XO p ob0)) fun x H1 => tb σ H1 fun y H2 =>
  H2 p = some (XO p ob0) ∧ ∃ c k, x = .ref c ∧ NK K H2 k (.ref c) ∧ k.depth ≤ 8 ∧ ∀ u ob, RelV y u → DEnt w ob [(k, c, u)] → Q (.ref p) (upd H2 p (XO p ob))
theorem pe_disp1 (hu : X.A.units + 65 < cLine) (ha : PE X a ta) (hb : PE X b tb) : PE X (.Dict [some a] [b] pos) (tDisp1 X.w X.K ta tb) := by
  refine ⟨fun pins s σ H Q I q => ?_⟩
  have hn := I.hok.fresh (Nat.le_refl s.heap.objs.size)
  have hs : (s.heap.objs.size == sysModules) = false := by
    have := I.big
    exact beq_eq_false_iff_ne.mpr (Nat.ne_of_gt this)
  have I1 : Inv X pins σ (upd H s.heap.objs.size (XO s.heap.objs.size { cls := .type "dict", data := .dict #[] })) { s with heap := s.heap.push { cls := .type "dict", data := .dict #[] } } :=
    I.laid (a := s.heap.objs.size) (o := XO s.heap.objs.size { cls := .type "dict", data := .dict #[] }) (t' := s.toks) (fun _ _ q => Heap.get?_push_of_some _ q) (Nat.le_refl _) ⟨Heap.get?_push_size _ rfl, ⟨_, Heap.get?_push_size _ rfl⟩, fun h1 h2 e k => k _ e⟩
  have de0 : DEnt X.w { cls := .type "dict", data := .dict #[] } [] := ⟨⟨rfl, rfl, rfl⟩, ⟨#[], 0, rfl, rfl⟩, List.nodup_nil, Nat.zero_le _, fun x hx => by cases hx⟩
  rw [arm_eval_Dict, show ((evalEachOpt [some a] X.env).zip ((evalEach [b] X.env).map fun v => do let x ← v; standAt pos; pure x)) = (pairTrees [some a] [b] X.env pos).map fun p => (some p.1, p.2) from zip_pairTrees [some a] [b] X.env pos rfl rfl, dictDisplay_pairs (pairTrees [some a] [b] X.env pos) (by simp [pairTrees]) (by simp [pairTrees])]
  refine wpAny_bind (wpAny_standAt (wpAny_bind (wpAny_subDictH (knd := nestedKind X.prog X.w) (Q := fun d s' => wpAny (model X.prog X.w) X.A (pure (Value.ref d)) (EP X pins σ Q) X.xe s') (by show X.A.units + 8 < cLine; omega) (by simp [pairTrees])
    (thn ((pps_cons (pos := pos) ha hb pps_nil).run pins _ σ _ (fun ps H2 => match ps with | [(x, y)] => H2 s.heap.objs.size = some (XO s.heap.objs.size { cls := .type "dict", data := .dict #[] }) ∧ ∃ c k, x = .ref c ∧ NK X.K H2 k (.ref c) ∧ k.depth ≤ 8 ∧ ∀ u ob, RelV y u → DEnt X.w ob [(k, c, u)] → Q (.ref s.heap.objs.size) (upd H2 s.heap.objs.size (XO s.heap.objs.size ob)) | _ => False) I1 (q s.heap.objs.size _ hn de0 hs)) fun ws s2 ⟨ps, H2, I2, rel, qq⟩ => ?_))))
  match ps, rel, qq with
  | [(x, y)], rel, qq =>
    obtain ⟨e, c, k, ex, nk, dp, q2⟩ := qq
    subst ex
    cases rel with
    | @cons p1 w1 _ _ hr t =>
      cases t
      obtain ⟨kw, vw⟩ := w1
      obtain ⟨r1, r2⟩ := hr
      have r1 : RelV (.ref c) kw := r1
      cases r1
      obtain ⟨ho, _⟩ := I2.hok _ _ e
      have hk : (nestedKind X.prog X.w).is s2.heap k c := ⟨nk_is I2 nk rfl, dp⟩
      refine ⟨[(k, c, vw)], ⟨rfl, rfl, hk, True.intro⟩, ⟨_, #[], 0, ho, ⟨rfl, rfl, rfl⟩, rfl, rfl, fun x hx => by simp at hx, List.nodup_nil⟩, fun h' tk dd' hsb => ?_⟩
      obtain ⟨ob, es, ep, hq, h2, h3, h4, h6, h5⟩ := dd'
      refine wpAny_pure ⟨.ref s.heap.objs.size, _, d_write (ob := XO s.heap.objs.size ob) I2 (by rw [e]; exact True.intro) hsb ⟨ob, hq⟩ ⟨hq, ⟨ob, hq⟩, fun h1 h2 e k => k ob e⟩, rfl, q2 vw ob r2 ⟨h2, ⟨es, ep, h3, h4⟩, h5, by show 1 ≤ sizeLine; decide, fun x hx => (h6 x hx).2⟩⟩
end
def dDc0 : Den := fun e h => .ok (.ref h.length) (h ++ [.live (.dct [] [])])
def dDc1 (a b : Den) : Den := fun e h => (a e h).bind fun x h => (b e h).bind fun y h => match keyT x with
  | none => .bad
  | some k => if y.und h.length = true then .ok (.ref h.length) (h ++ [.live (.dct [k] [y])]) else .bad
section
variable [TheW] {X : Cx} {a b : Expr} {pos : Pos} {da db : Den}
theorem s_dc0 (hw : TheW.w = X.w) : PE X (.Dict [] [] pos) (rdE X.K dDc0) := by
  refine pe_dnewN.wkn fun σ H Q ⟨ι, e, h, R, k⟩ => ?_
  intro p ob hp de hs
  have R2 : RH X.K (ι.res p) h (upd H p (XO p ob)) := res_rh R.rh hp
  have P := nc_pres (p := p) (g := ι.g) R2 rfl (.dct [] [])
  exact k _ _ _ (nc_ext R.rh R2 rfl (Wx.start (u := XO p ob) R.rh hp).done hp _) ⟨nc_rhO R2 rfl (res_no R.rh hp) ⟨[], [], ⟨ob, upd_same, .inl ⟨[], by rw [hw]; exact de, rfl, rfl, .nil⟩, hs⟩, .nil, .nil⟩ rfl, (R.re.pr (res_pres (h := h) hp)).pr P⟩ (nc_rep R2)
theorem s_dc1 (hu : X.A.units + 65 < cLine ∧ TheW.w = X.w) (ha : PE X a (rdE X.K da)) (hb : PE X b (rdE X.K db)) : PE X (.Dict [some a] [b] pos) (rdE X.K (dDc1 da db)) := by
  refine (pe_disp1 hu.1 ha hb).wkn fun σ H Q ⟨ι, e, h, R, k⟩ => ?_
  intro p ob0 hp de0 hs
  have R0 : RH X.K (ι.res p) h (upd H p (XO p ob0)) := res_rh R.rh hp
  have W0 : Wx ι h H p (ι.res p) h (upd H p (XO p ob0)) := Wx.start R.rh hp
  refine ⟨ι.res p, e, h, ⟨R0, R.re.pr (res_pres (h := h) hp)⟩, ?_⟩
  unfold dDc1 at k
  cases q : da e h with
  | err _ _ => rw [q] at k; exact k
  | bad => rw [q] at k; exact k
  | ok x h1 =>
  rw [q] at k
  intro ι1 H1 v x1 R1 r1
  have W1 := W0.step hp R0 R1.rh x1
  refine ⟨ι1, e, h1, R1, ?_⟩
  change Kd X.K ι h H e σ ((db e h1).bind fun y h => match keyT x with | none => .bad | some k => if y.und h.length = true then Res.ok (.ref h.length) (h ++ [.live (.dct [k] [y])]) else .bad) Q at k
  cases q2 : db e h1 with
  | err _ _ => rw [q2] at k; exact k
  | bad => rw [q2] at k; exact k
  | ok y h2 =>
  rw [q2] at k
  intro ι2 H2 w x2 R2 r2
  have W2 := W1.step hp R1.rh R2.rh x2
  have r1 := r1.ext x2
  have hp2 : H2 p = some (XO p ob0) := by
    have n0 : ¬ Mt (ι.res p) h p := fun ⟨n, z, _⟩ => R0.gd p (List.mem_cons_self ..) n z
    have e1 := x1.frame p _ upd_same n0
    have n1 : ¬ Mt ι1 h1 p := fun ⟨n, z, _⟩ => R1.rh.gd p (by rw [W1.g]; exact List.mem_cons_self ..) n z
    exact x2.frame p _ e1 n1
  change Kd X.K ι h H e σ (match keyT x with | none => .bad | some k => if y.und h2.length = true then Res.ok (.ref h2.length) (h2 ++ [.live (.dct [k] [y])]) else .bad) Q at k
  cases qk : keyT x with
  | none => rw [qk] at k; exact k.elim
  | some kk =>
    rw [qk] at k
    dsimp only at k
    split at k
    · rename_i hud
      obtain ⟨c, rfl, nk, dp⟩ := keyT_nk qk r1
      obtain ⟨ex, _, _⟩ := keyT_ok qk
      refine ⟨hp2, c, kk, rfl, nk, dp, fun u ob ru de => ?_⟩
      have pm : p ∈ ι2.g := by rw [W2.g]; exact List.mem_cons_self ..
      have R3 : RH X.K ι2 h2 (upd H2 p (XO p ob)) := upg_rh R2.rh pm
      have P3 := upg_pres (u := XO p ob) R2.rh pm
      have W3 : Wx ι h H p ι2 h2 (upd H2 p (XO p ob)) := W2.upg hp
      have P := nc_pres (p := p) (g := ι.g) R3 W2.g (.dct [kk] [y])
      refine k _ _ _ (nc_ext R.rh R3 W2.g W3.done hp _) ⟨nc_rhO R3 W2.g (res_no R.rh hp) ⟨[.ref c], [w], ⟨ob, upd_same, .inl ⟨[(kk, c, u)], by rw [hu.2]; exact de, rfl, rfl, .cons ru .nil⟩, hs⟩, .cons (by rw [← ex]; exact r1.pr P3) .nil, .cons (r2.pr P3) .nil⟩ ?_, (R2.re.pr P3).pr P⟩ (nc_rep R3)
      show (D.und h2.length y && true) = true
      rw [hud]; rfl
    · exact k.elim
end
end Ev
/-! EvDc: lists popped, dicts that are told whole, walked into lists, asked; sorted ints. -/
namespace Ev
open PySem PySem.Spec L2
variable [TheW]

/-! ### xs.pop() -/
def popO (x : D) (h : Hs) : Option (D × Hs) := match liveAt h x with
  | none => none
  | some (m, xs) => match xs.getLast? with
    | none => none
    | some y => some (y, h.set m (.live (.lst xs.dropLast)))
def dPop (o : Den) : Den := fun e h => (o e h).bind fun x h => match popO x h with
  | none => .bad
  | some (y, h) => .ok y h
theorem undAll_take {n : Nat} : ∀ {xs : List D} {k : Nat}, D.undAll n xs = true → D.undAll n (xs.take k) = true
  | [], k, _ => by rw [List.take_nil]; rfl
  | x :: xs, 0, _ => rfl
  | x :: xs, k + 1, q => by
    unfold D.undAll at q
    rw [Bool.and_eq_true] at q
    rw [List.take_succ_cons]
    unfold D.undAll
    rw [q.1, undAll_take q.2]; rfl
section
variable {X : Cx} {o a b c : Expr} {apos pos : Pos} {dO da db dc : Den}
theorem s_pop (ho : PE X o (rdE X.K dO)) (no : nosuper o = true) (hl : (apos.endLine == pos.line) = true) : PE X (.Call (.Attribute o "pop" apos) [] [] pos) (rdE X.K (dPop dO)) := by
  refine (pe_bm0 PySem.F.plainAttrs_list PySem.F.slot_list_pop PySem.F.type_list_pop mt_pop ho (abase no) hl).wkn fun σ H Q ⟨ι, e, h, R, k⟩ => ⟨ι, e, h, R, (Kg.bind k).imp fun v H1 ⟨x, h1, ι1, n1⟩ => ?_⟩
  have k1 := n1.k
  unfold popO at k1
  cases q1 : liveAt h1 x with
  | none => rw [q1] at k1; exact k1.elim
  | some mx =>
  obtain ⟨m, xs⟩ := mx
  rw [q1] at k1
  dsimp only at k1
  obtain ⟨a, vs, rfl, hm, qa, w, t, b⟩ := liveAt_rep n1.R.rh q1 n1.rr
  cases q2 : xs.getLast? with
  | none => rw [q2] at k1; exact k1.elim
  | some y =>
  rw [q2] at k1
  have k1 : Kd X.K ι1 h1 H1 e σ (.ok y (h1.set m (.live (.lst xs.dropLast)))) Q := k1
  have q3 : xs[xs.length - 1]? = some y := by rw [← List.getLast?_eq_getElem?]; exact q2
  obtain ⟨u, q4, ru⟩ := t.get q3
  have x3 : Ext ι1 h1 H1 ι1 (h1.set m (.live (.lst xs.dropLast))) (upd H1 a (.lst vs.dropLast)) := cell_ext n1.R.rh hm qa
  have td : RepL X.K ι1 H1 xs.dropLast vs.dropLast := by
    rw [List.dropLast_eq_take, List.dropLast_eq_take, t.length]; exact t.take _
  have ud : D.undAll m xs.dropLast = true := by rw [List.dropLast_eq_take]; exact undAll_take b
  refine ⟨.inl ⟨rfl, vs, .of w⟩, a, vs, u, rfl, rfl, w, by rw [← t.length]; exact q4, ?_⟩
  exact k1 ι1 _ _ x3 (cell_rl n1.R hm qa td ud) (ru.ext x3)
/-! ### displays of dicts that are not changed -/
def dDf0 : Den := fun e h => .ok (.dct [] []) h
def dDf1 (a b : Den) : Den := fun e h => (a e h).bind fun x h => (b e h).bind fun y h => match keyT x with
  | none => .bad
  | some k => .ok (.dct [k] [y]) h
theorem s_df0 (hw : TheW.w = X.w) : PE X (.Dict [] [] pos) (rdE X.K dDf0) := by
  refine pe_dnewN.wkn fun σ H Q ⟨ι, e, h, R, k⟩ => ?_
  intro p ob hp de hs
  exact Kg.new k R hp (.dct ⟨⟨ob, upd_same, .inl ⟨[], by rw [hw]; exact de, rfl, rfl, .nil⟩, hs⟩, R.rh.not_own hp⟩ .nil .nil)
/-- what was kept aside is kept no more, and told whole -/
theorem unres_new {K : PySem.W.Frag} {ι ι1 : Io} {h h1 : Hs} {H H1 : Hp} {e : En} {σ : St} {p : Addr} (w : Wx ι h H p ι1 h1 H1) (R1 : Rl K ι1 e h1 σ H1) (hp : H p = none) : Ext ι h H ⟨ι1.c, ι.g⟩ h1 H1 ∧ Rl K ⟨ι1.c, ι.g⟩ e h1 σ H1 ∧ (p ∉ ι.g → ¬ Own ⟨ι1.c, ι.g⟩ p) := by
  refine ⟨w.done, ⟨unres_rh w.g R1.rh, R1.re.pr (unres_pres (h1 := h1) w.g)⟩, fun ng o => ?_⟩
  rcases o with ⟨n, q⟩ | o
  · exact R1.rh.gd p (by rw [w.g]; exact List.mem_cons_self ..) n q
  · exact ng o
theorem s_df1 (hu : X.A.units + 65 < cLine ∧ TheW.w = X.w) (ha : PE X a (rdE X.K da)) (hb : PE X b (rdE X.K db)) : PE X (.Dict [some a] [b] pos) (rdE X.K (dDf1 da db)) := by
  refine (pe_disp1 hu.1 ha hb).wkn fun σ H Q ⟨ι, e, h, R, k⟩ => ?_
  intro p ob0 hp de0 hs
  have R0 : RH X.K (ι.res p) h (upd H p (XO p ob0)) := res_rh R.rh hp
  have W0 : Wx ι h H p (ι.res p) h (upd H p (XO p ob0)) := Wx.start R.rh hp
  refine ⟨ι.res p, e, h, ⟨R0, R.re.pr (res_pres (h := h) hp)⟩, ?_⟩
  unfold dDf1 at k
  cases q : da e h with
  | err _ _ => rw [q] at k; exact k
  | bad => rw [q] at k; exact k
  | ok x h1 =>
  rw [q] at k
  intro ι1 H1 v x1 R1 r1
  have W1 := W0.step hp R0 R1.rh x1
  refine ⟨ι1, e, h1, R1, ?_⟩
  change Kd X.K ι h H e σ ((db e h1).bind fun y h => match keyT x with | none => .bad | some k => Res.ok (.dct [k] [y]) h) Q at k
  cases q2 : db e h1 with
  | err _ _ => rw [q2] at k; exact k
  | bad => rw [q2] at k; exact k
  | ok y h2 =>
  rw [q2] at k
  intro ι2 H2 w x2 R2 r2
  have W2 := W1.step hp R1.rh R2.rh x2
  have r1 := r1.ext x2
  have hp2 : H2 p = some (XO p ob0) := by
    have n0 : ¬ Mt (ι.res p) h p := fun ⟨n, z, _⟩ => R0.gd p (List.mem_cons_self ..) n z
    have e1 := x1.frame p _ upd_same n0
    have n1 : ¬ Mt ι1 h1 p := fun ⟨n, z, _⟩ => R1.rh.gd p (by rw [W1.g]; exact List.mem_cons_self ..) n z
    exact x2.frame p _ e1 n1
  change Kd X.K ι h H e σ (match keyT x with | none => .bad | some k => Res.ok (.dct [k] [y]) h2) Q at k
  cases qk : keyT x with
  | none => rw [qk] at k; exact k.elim
  | some kk =>
    rw [qk] at k
    have k : Kd X.K ι h H e σ (.ok (.dct [kk] [y]) h2) Q := k
    obtain ⟨c, rfl, nk, dp⟩ := keyT_nk qk r1
    obtain ⟨ex, _, _⟩ := keyT_ok qk
    refine ⟨hp2, c, kk, rfl, nk, dp, fun u ob ru de => ?_⟩
    have pm : p ∈ ι2.g := by rw [W2.g]; exact List.mem_cons_self ..
    have R3 : RH X.K ι2 h2 (upd H2 p (XO p ob)) := upg_rh R2.rh pm
    have P3 := upg_pres (u := XO p ob) R2.rh pm
    have W3 : Wx ι h H p ι2 h2 (upd H2 p (XO p ob)) := W2.upg hp
    obtain ⟨z1, z2, z3⟩ := unres_new (e := e) (σ := σ) W3 ⟨R3, R2.re.pr P3⟩ hp
    have P4 := unres_pres (h1 := h2) (H1 := upd H2 p (XO p ob)) W2.g
    refine k _ _ _ z1 z2 (.dct ⟨⟨ob, upd_same, .inl ⟨[(kk, c, u)], by rw [hu.2]; exact de, rfl, rfl, .cons ru .nil⟩, hs⟩, z3 (res_no R.rh hp)⟩ (.cons (by rw [← ex]; exact (r1.pr P3).pr P4) .nil) (.cons ((r2.pr P3).pr P4) .nil))
/-- {z: b}, z a written text -/
def dDf1S (z : Str) (b : Den) : Den := fun e h => (b e h).bind fun y h => .ok (.dct [.text z] [y]) h
def tDisp1S (w : World) (ta tb : TE) : TE := fun σ H Q => ∀ p ob0, H p = none → DEnt w ob0 [] → (p == sysModules) = false → ta σ (upd H p (XO p ob0)) fun x H1 => tb σ H1 fun y H2 =>
  H2 p = some (XO p ob0) ∧ ∃ z, x = .str z ∧ ∀ yk u ob, RelV x yk → RelV y u → DEntM w ob [(.text z, yk, u)] → Q (.ref p) (upd H2 p (XO p ob))
theorem pe_disp1S {ta tb : TE} (ha : PE X a ta) (hb : PE X b tb) : PE X (.Dict [some a] [b] pos) (tDisp1S X.w ta tb) := by
  refine ⟨fun pins s σ H Q I q => ?_⟩
  have hn := I.hok.fresh (Nat.le_refl s.heap.objs.size)
  have hs : (s.heap.objs.size == sysModules) = false := by
    have := I.big
    exact beq_eq_false_iff_ne.mpr (Nat.ne_of_gt this)
  have I1 : Inv X pins σ (upd H s.heap.objs.size (XO s.heap.objs.size { cls := .type "dict", data := .dict #[] })) { s with heap := s.heap.push { cls := .type "dict", data := .dict #[] } } :=
    I.laid (a := s.heap.objs.size) (o := XO s.heap.objs.size { cls := .type "dict", data := .dict #[] }) (t' := s.toks) (fun _ _ q => Heap.get?_push_of_some _ q) (Nat.le_refl _) ⟨Heap.get?_push_size _ rfl, ⟨_, Heap.get?_push_size _ rfl⟩, fun h1 h2 e k => k _ e⟩
  have de0 : DEnt X.w { cls := .type "dict", data := .dict #[] } [] := ⟨⟨rfl, rfl, rfl⟩, ⟨#[], 0, rfl, rfl⟩, List.nodup_nil, Nat.zero_le _, fun x hx => by cases hx⟩
  rw [arm_eval_Dict, show ((evalEachOpt [some a] X.env).zip ((evalEach [b] X.env).map fun v => do let x ← v; standAt pos; pure x)) = (pairTrees [some a] [b] X.env pos).map fun p => (some p.1, p.2) from zip_pairTrees [some a] [b] X.env pos rfl rfl, dictDisplay_pairs (pairTrees [some a] [b] X.env pos) (by simp [pairTrees]) (by simp [pairTrees])]
  refine wpAny_bind (wpAny_standAt (wpAny_bind (wpAny_subDict (knd := strKind X.prog X.w) (Q := fun d s' => wpAny (model X.prog X.w) X.A (pure (Value.ref d)) (EP X pins σ Q) X.xe s') (by simp [pairTrees])
    (thn ((pps_cons (pos := pos) ha hb pps_nil).run pins _ σ _ (fun ps H2 => match ps with | [(x, y)] => H2 s.heap.objs.size = some (XO s.heap.objs.size { cls := .type "dict", data := .dict #[] }) ∧ ∃ z, x = .str z ∧ ∀ yk u ob, RelV x yk → RelV y u → DEntM X.w ob [(.text z, yk, u)] → Q (.ref s.heap.objs.size) (upd H2 s.heap.objs.size (XO s.heap.objs.size ob)) | _ => False) I1 (q s.heap.objs.size _ hn de0 hs)) fun ws s2 ⟨ps, H2, I2, rel, qq⟩ => ?_))))
  match ps, rel, qq with
  | [(x, y)], rel, qq =>
    obtain ⟨e, z, ex, q2⟩ := qq
    subst ex
    cases rel with
    | @cons p1 w1 _ _ hr t =>
      cases t
      obtain ⟨kw, vw⟩ := w1
      obtain ⟨r1, r2⟩ := hr
      have r1 : RelV (.str z) kw := r1
      have r1' := r1
      obtain ⟨t, rfl⟩ := r1'
      obtain ⟨ho, _⟩ := I2.hok _ _ e
      have hk : (strKind X.prog X.w).is z (.str z t) = true := by
        show Value.isStrOf z (.str z t) = true
        simp [Value.isStrOf]
      refine ⟨[(z, vw)], ⟨hk, rfl, True.intro⟩, ⟨_, #[], 0, ho, ⟨rfl, rfl, rfl⟩, rfl, fun x hx => by simp at hx, .nil, List.nodup_nil⟩, fun h' dd' hsb => ?_⟩
      obtain ⟨ob, es, ep, hq, h2, h3, h4, h5, h6⟩ := dd'
      have em : merged ([] : List (Str × Value)) [(z, vw)] = [(z, vw)] := rfl
      rw [em] at h5
      obtain ⟨e0, ee, k1, k2⟩ : ∃ e0, es.toList = [e0] ∧ (strKind X.prog X.w).is z e0.key = true ∧ e0.val = vw := by
        revert h5
        generalize es.toList = L
        intro h5
        cases h5 with
        | cons a v b => cases b with
          | nil => exact ⟨_, rfl, a, v⟩
      have m0 : e0 ∈ es := by
        rw [← Array.mem_toList_iff, ee]; exact List.mem_singleton.mpr rfl
      obtain ⟨k', kk1, kk2⟩ := h4 e0 m0
      obtain rfl := (strKind X.prog X.w).inj _ _ _ kk1 k1
      obtain ⟨t2, et⟩ := Value.isStrOf_shape k1
      refine wpAny_pure ⟨.ref s.heap.objs.size, _, d_write (ob := XO s.heap.objs.size ob) I2 (by rw [e]; exact True.intro) hsb ⟨ob, hq⟩ ⟨hq, ⟨ob, hq⟩, fun h1 h2 e k => k ob e⟩, rfl, q2 e0.key vw ob ⟨t2, et⟩ r2 ⟨h2, ⟨es, ep, h3, ?_⟩, by simp, by show 1 ≤ sizeLine; decide, fun x hx => by
        rw [List.mem_singleton.mp hx]
        show NestedKey.depth (.text k') ≤ 8
        exact Nat.zero_le _⟩⟩
      rw [ee]
      show [e0] = [⟨NestedKey.hash X.w (.text k'), e0.key, vw⟩]
      obtain ⟨eh, ek, ev⟩ := e0
      have kk2 : eh = NestedKey.hash X.w (.text k') := kk2
      have k2 : ev = vw := k2
      rw [kk2, k2]
theorem s_df1S {z : Str} (hu : X.A.units + 65 < cLine ∧ TheW.w = X.w) (ha : PE X a (rdE X.K (dC (.str z)))) (hb : PE X b (rdE X.K db)) : PE X (.Dict [some a] [b] pos) (rdE X.K (dDf1S z db)) := by
  refine (pe_disp1S ha hb).wkn fun σ H Q ⟨ι, e, h, R, k⟩ => ?_
  intro p ob0 hp de0 hs
  have R0 : RH X.K (ι.res p) h (upd H p (XO p ob0)) := res_rh R.rh hp
  have W0 : Wx ι h H p (ι.res p) h (upd H p (XO p ob0)) := Wx.start R.rh hp
  refine ⟨ι.res p, e, h, ⟨R0, R.re.pr (res_pres (h := h) hp)⟩, ?_⟩
  intro ι1 H1 v x1 R1 r1
  have W1 := W0.step hp R0 R1.rh x1
  refine ⟨ι1, e, h, R1, ?_⟩
  change Kd X.K ι h H e σ ((db e h).bind fun y h => Res.ok (.dct [.text z] [y]) h) Q at k
  cases q2 : db e h with
  | err _ _ => rw [q2] at k; exact k
  | bad => rw [q2] at k; exact k
  | ok y h2 =>
  rw [q2] at k
  intro ι2 H2 w x2 R2 r2
  have W2 := W1.step hp R1.rh R2.rh x2
  cases r1
  have hp2 : H2 p = some (XO p ob0) := by
    have n0 : ¬ Mt (ι.res p) h p := fun ⟨n, z, _⟩ => R0.gd p (List.mem_cons_self ..) n z
    have e1 := x1.frame p _ upd_same n0
    have n1 : ¬ Mt ι1 h p := fun ⟨n, z, _⟩ => R1.rh.gd p (by rw [W1.g]; exact List.mem_cons_self ..) n z
    exact x2.frame p _ e1 n1
  have k : Kd X.K ι h H e σ (.ok (.dct [.text z] [y]) h2) Q := k
  refine ⟨hp2, z, rfl, fun yk u ob rk ru de => ?_⟩
  have pm : p ∈ ι2.g := by rw [W2.g]; exact List.mem_cons_self ..
  have R3 : RH X.K ι2 h2 (upd H2 p (XO p ob)) := upg_rh R2.rh pm
  have P3 := upg_pres (u := XO p ob) R2.rh pm
  have W3 : Wx ι h H p ι2 h2 (upd H2 p (XO p ob)) := W2.upg hp
  obtain ⟨z1, z2, z3⟩ := unres_new (e := e) (σ := σ) W3 ⟨R3, R2.re.pr P3⟩ hp
  have P4 := unres_pres (h1 := h2) (H1 := upd H2 p (XO p ob)) W2.g
  exact k _ _ _ z1 z2 (.dct ⟨⟨ob, upd_same, .inr ⟨[(.text z, yk, u)], by rw [hu.2]; exact de, rfl, .cons rk .nil, .cons ru .nil, rfl⟩, hs⟩, z3 (res_no R.rh hp)⟩ (.cons (.str z) .nil) (.cons ((r2.pr P3).pr P4) .nil))
end
/-! ### a dict, to be read -/
theorem dct_rep {K : PySem.W.Frag} {ι : Io} {h : Hs} {H : Hp} (R : RH K ι h H) {x : D} {ks : List NestedKey} {ds : List D} {v : V} (q : dctAt x h = some (ks, ds)) (r : Rep K ι H x v) : ∃ d kv vv, v = .ref d ∧ FD0 TheW.w H d ks kv vv ∧ RepL K ι H (kds ks) kv ∧ RepL K ι H ds vv := by
  cases x <;> try cases q
  · rename_i m
    unfold dctAt at q
    dsimp only at q
    cases q1 : cellAt h m with
    | none => rw [q1] at q; cases q
    | some o =>
      rw [q1] at q
      cases o <;> try cases q
      obtain ⟨a, eb, _, orr, _⟩ := cellAt_rep R q1 r
      obtain ⟨kv, vv, f, rk, rv⟩ := orr
      exact ⟨a, kv, vv, eb, f, rk, rv⟩
  · cases r with
    | dct f rk rv => exact ⟨_, _, _, rfl, f.1, rk, rv⟩
theorem fd_raw {w : World} {H : Hp} {d : Addr} {ks : List NestedKey} {kv vv : List V} (f : FD0 w H d ks kv vv) : ∃ o es ep, H d = some (XO d o) ∧ (d == sysModules) = false ∧ o.ExactDict ∧ o.data = .dict es ep ∧ Vals kv (es.toList.map (·.key)) ∧ kv.length ≤ sizeLine ∧ ks.length = kv.length := by
  obtain ⟨o, h1, dk, h6⟩ := f
  obtain ⟨hx, es, ep, hd, hv⟩ := dky_walk dk
  refine ⟨o, es, ep, h1, h6, hx, hd, hv, ?_⟩
  rcases dk with ⟨xs, ⟨_, _, _, ln, _⟩, e1, e2, _⟩ | ⟨xs, ⟨_, _, _, ln, _⟩, e1, e2, _⟩
  · rw [e1, e2, List.length_map, List.length_map]; exact ⟨ln, rfl⟩
  · have e3 : kv.length = xs.length := by rw [Paired.length e2, List.length_map]
    rw [e1, e3, List.length_map]; exact ⟨ln, rfl⟩
section
variable {X : Cx}
theorem call_listD (hc : X.calm = true) : CallR X (.type "list") (fun xs H Q => ∃ d o es ep kv, xs = [V.ref d] ∧ H d = some (XO d o) ∧ (d == sysModules) = false ∧ o.ExactDict ∧ o.data = .dict es ep ∧ Vals kv (es.toList.map (·.key)) ∧ kv.length ≤ sizeLine ∧ ∀ p, H p = none → Q (.ref p) (upd H p (.lst kv))) := by
  intro pins s σ H xs us Q I r z
  obtain ⟨d, o, es, ep, kv, rfl, hd, hs, hx, hdt, hv, hz, q⟩ := z
  obtain ⟨u, rfl, rx⟩ := r.one
  cases rx
  obtain ⟨ho, _⟩ := I.hok d _ hd
  have l1 : kv.length = es.size := by have := hv.length; rw [List.length_map, Array.length_toList] at this; exact this
  refine PySem.W.kdl_call (kdl_raw hs hx hdt) (I.ok.hd hc) ho (by omega) fun h' tk acc c' kp e it => ?_
  have ea : acc.toList = es.toList.map (·.key) := by
    apply List.ext_getElem?
    intro j
    rw [List.getElem?_map]
    cases hj : acc.toList[j]? with
    | none =>
      have h1 := List.getElem?_eq_none_iff.mp hj
      rw [Array.length_toList, it.1] at h1
      rw [List.getElem?_eq_none (by rw [Array.length_toList]; omega)]
      rfl
    | some v =>
      obtain ⟨en, hen, hv⟩ := it.2 j v (by rw [← Array.getElem?_toList]; exact hj)
      rw [Array.getElem?_toList, hen, hv]
      rfl
  rw [← ea] at hv
  exact ⟨.ref s.heap.objs.size, _, I.laid (t' := tk) (o := .lst kv) kp (Nat.le_refl _) ⟨hz, acc.toList, c', hv, by rw [Array.toArray_toList]; exact e⟩, rfl, q _ (I.hok.fresh (Nat.le_refl _))⟩
/-- list(x) -/
def listD (x : D) (h : Hs) : Option (List D) := match dctAt x h with
  | some (ks, _) => some (kds ks)
  | none => match x with
    | .tup xs => some xs
    | x => asL h x
def fLs : F1 := fun x h => (listD x h).map .lst
def rLs (K : PySem.W.Frag) : List V → Hp → VK → Prop := fun xs H Q => (∃ d o es ep kv, xs = [V.ref d] ∧ H d = some (XO d o) ∧ (d == sysModules) = false ∧ o.ExactDict ∧ o.data = .dict es ep ∧ Vals kv (es.toList.map (·.key)) ∧ kv.length ≤ sizeLine ∧ ∀ p, H p = none → Q (.ref p) (upd H p (.lst kv))) ∨
  ∃ p ys, xs = [.ref p] ∧ (SqL K H p ys ∨ SqT K H p ys) ∧ ∀ l, H l = none → Q (.ref l) (upd H l (.lst ys))
theorem rls_of {K : PySem.W.Frag} {ι : Io} {h : Hs} {H : Hp} (R : RH K ι h H) {x : D} {xs : List D} {v : V} {Q : VK} (q : listD x h = some xs) (r : Rep K ι H x v) (k : ∀ p ws, RepL K ι H xs ws → H p = none → Q (.ref p) (upd H p (.lst ws))) : rLs K [v] H Q := by
  unfold listD at q
  cases q1 : dctAt x h with
  | some kd =>
    obtain ⟨ks, ds⟩ := kd
    rw [q1] at q
    cases q
    obtain ⟨d, kv, vv, rfl, f, rk, rv⟩ := dct_rep R q1 r
    obtain ⟨o, es, ep, a1, a2, a3, a4, a5, a6, a7⟩ := fd_raw f
    exact .inl ⟨d, o, es, ep, kv, rfl, a1, a2, a3, a4, a5, a6, fun p hp => k p kv rk hp⟩
  | none =>
    rw [q1] at q
    dsimp only at q
    by_cases c : ∃ ys, x = .tup ys
    · obtain ⟨ys, rfl⟩ := c
      cases q
      cases r with
      | tup f t => exact .inr ⟨_, _, rfl, .inr f.sq, fun l hl => k l _ t hl⟩
    · have q2 : asL h x = some xs := by
        split at q
        · exact (c ⟨_, rfl⟩).elim
        · exact q
      obtain ⟨p, vs, rfl, ea, ra⟩ := asL_rep R q2 r
      exact .inr ⟨p, vs, rfl, .inl ea, fun l hl => k l vs ra hl⟩
theorem ok_ls {K : PySem.W.Frag} : Ok1 K fLs (rLs K) := by
  intro ι h H e σ Q x d v R q r k
  unfold fLs at q
  cases q1 : listD x h with
  | none => rw [q1] at q; cases q
  | some xs =>
    rw [q1] at q
    cases q
    exact rls_of R.rh q1 r fun p ws t hp => k.new R hp (.newL R.rh hp t)
/-- list(x), to be changed -/
def nLs (a : Den) : DenA := fun e h => (a e h).bind fun x h => match listD x h with
  | none => .bad
  | some xs => .ok xs h
theorem n_ls {a : Expr} {da : Den} {p pos : Pos} (hc : X.calm = true) (hg : Gl X "list") (hm : X.mg "list" = none) (ha : PE X a (rdE X.K da)) (pa : plain a = true) : PE X (.Call (.Name "list" p) [a] [] pos) (rdN X.K (nLs da)) := by
  refine (pe_callTy ((call_listD hc).or call_list_of) hg hm (by decide +kernel) (a_one (es := []) ha pa) (by decide) (by decide) (star_of pa) rfl).wkn fun σ H Q ⟨ι, e, h, R, k⟩ => ⟨ι, e, h, R, ?_⟩
  unfold nLs at k
  show Ka X.K ι h H e σ ((da e h).bind fun x h => (aNil e h).bind fun xs h => .ok (x :: xs) h) _
  cases q : da e h with
  | err _ _ => rw [q] at k; exact k
  | bad => rw [q] at k; exact k
  | ok x h1 =>
  rw [q] at k
  intro ι1 H1 vs x1 R1 rr
  cases rr with
  | cons r1 t =>
  cases t
  change (match (match listD x h1 with | none => Res.bad | some xs => .ok xs h1) with
    | .ok xs h' => ∀ ι' H' p vs, ι'.g = p :: ι.g → Ext ι h H ⟨ι'.c, ι.g⟩ h' H' → RH X.K ι' h' H' → RE X.K ι' e σ H' → H' p = some (.lst vs) → RepL X.K ι' H' xs vs → H p = none → Q (.ref p) H'
    | _ => False) at k
  cases q1 : listD x h1 with
  | none => rw [q1] at k; exact k.elim
  | some xs =>
    rw [q1] at k
    exact rls_of R1.rh q1 r1 fun p ws t hp => new_end R x1 R1 t hp k
/-! ### len(d) -/
theorem call_lenX : CallR X (.builtin "len") (fun xs H Q => ∃ d o es ep kv, xs = [V.ref d] ∧ H d = some (XO d o) ∧ (d == sysModules) = false ∧ o.ExactDict ∧ o.data = .dict es ep ∧ Vals kv (es.toList.map (·.key)) ∧ kv.length ≤ sizeLine ∧ Q (.int (kv.length : Nat)) H) := by
  intro pins s σ H xs us Q I r z
  obtain ⟨d, o, es, ep, kv, rfl, hd, hs, hx, hdt, hv, hz, q⟩ := z
  obtain ⟨u, rfl, rx⟩ := vals1 r
  obtain rfl : u = .ref d := rx
  obtain ⟨ho, _⟩ := I.hok d _ hd
  have l1 : kv.length = es.size := by have := hv.length; rw [List.length_map, Array.length_toList] at this; exact this
  have ty : s.TypeIs (.ref d) "dict" := ⟨o, ho, hx.1⟩
  have fit : (kv.length : Int) < 2 ^ 63 := by
    have : sizeLine = 16777216 := rfl
    omega
  refine Calls.call_function_entry kind_len plain_len entry_len (args_len1 _) ?_
  unfold Builtin.«len»
  refine wpAny_bind (m := oneArg "len" _) (wpAny_pure ?_)
  refine wpAny_bind (m := callSpecial? (.ref d) (Str.ofString "__len__")) (wpAny_callSpecial?_slot (name := Str.ofString "__len__") ty PySem.F.slot_dict_len ?_)
  refine PySem.call_len_raw hs ⟨o, ho, hx, hdt⟩ ?_
  rw [← l1]
  show wpAny _ _ _ _ _ { s with toks := s.toks + 1 }
  refine wpAny_bind (wpAny_holding (wpAny_pure ?_))
  refine wpAny_bind (wpAny_letGo ?_)
  show wpAny _ _ (if ((kv.length : Nat) : Int) < 0 then _ else _) _ _ _
  rw [if_neg (by omega)]
  show wpAny _ _ (if ((kv.length : Nat) : Int) ≥ 2 ^ 63 then _ else _) _ _ _
  rw [if_neg (by omega)]
  exact wpAny_bind (wpAny_mkInt (wpAny_pure ⟨_, rfl, .int _, H, I.tok _, ⟨_, rfl⟩, q⟩))
def fLn : F1 := fun x h => match dctAt x h with
  | some (ks, _) => some (.int ks.length)
  | none => fLen x h
theorem ok_ln {K : PySem.W.Frag} : Ok1 K fLn (fun xs H Q => (∃ d o es ep kv, xs = [V.ref d] ∧ H d = some (XO d o) ∧ (d == sysModules) = false ∧ o.ExactDict ∧ o.data = .dict es ep ∧ Vals kv (es.toList.map (·.key)) ∧ kv.length ≤ sizeLine ∧ Q (.int (kv.length : Nat)) H) ∨ ∃ x n, xs = [x] ∧ LenV K x H n ∧ Q (.int n) H) := by
  intro ι h H e σ Q x d v R q r k
  unfold fLn at q
  cases q1 : dctAt x h with
  | some kd =>
    obtain ⟨ks, ds⟩ := kd
    rw [q1] at q
    cases q
    obtain ⟨d, kv, vv, rfl, f, rk, rv⟩ := dct_rep R.rh q1 r
    obtain ⟨o, es, ep, a1, a2, a3, a4, a5, a6, a7⟩ := fd_raw f
    rw [a7] at k
    exact .inl ⟨d, o, es, ep, kv, rfl, a1, a2, a3, a4, a5, a6, k.here R (.int _)⟩
  | none => rw [q1] at q; exact .inr (ok_len ι h H e σ Q x d v R q r k)
/-! ### sorted(ints) -/
def insI (i : Int) : List Int → List Int
  | [] => [i]
  | j :: js => if i ≤ j then i :: j :: js else j :: insI i js
def srtI : List Int → List Int
  | [] => []
  | i :: is => insI i (srtI is)
theorem insI_perm (i : Int) : ∀ js : List Int, (insI i js).Perm (i :: js)
  | [] => .refl _
  | j :: js => by
    unfold insI
    split
    · exact .refl _
    · exact ((insI_perm i js).cons j).trans (.swap ..)
theorem insI_le {i : Int} : ∀ {js : List Int}, js.Pairwise (· ≤ ·) → (insI i js).Pairwise (· ≤ ·)
  | [], _ => by unfold insI; simp
  | j :: js, q => by
    unfold insI
    split
    · rename_i h
      rw [List.pairwise_cons] at q
      refine List.pairwise_cons.mpr ⟨fun z hz => ?_, List.pairwise_cons.mpr q⟩
      rcases List.mem_cons.mp hz with e | hz
      · omega
      · have := q.1 z hz; omega
    · rename_i h
      rw [List.pairwise_cons] at q
      refine List.pairwise_cons.mpr ⟨fun z hz => ?_, insI_le q.2⟩
      rcases List.mem_cons.mp ((insI_perm i js).mem_iff.mp hz) with e | hz
      · omega
      · exact q.1 z hz
theorem srtI_perm : ∀ is : List Int, (srtI is).Perm is
  | [] => .refl _
  | i :: is => (insI_perm i _).trans ((srtI_perm is).cons i)
theorem srtI_le : ∀ is : List Int, (srtI is).Pairwise (· ≤ ·)
  | [] => .nil
  | i :: is => insI_le (srtI_le is)
theorem srtI_eq {is js : List Int} (p : js.Perm is) (s : js.Pairwise (· ≤ ·)) : js = srtI is :=
  List.Perm.eq_of_pairwise (fun a b _ _ h1 h2 => Int.le_antisymm h1 h2) s (srtI_le is) (p.trans (srtI_perm is).symm)
def fSrt : F1 := fun x h => match asL h x with
  | none => none
  | some xs => (mapO asI xs).map fun ns => .lst ((srtI ns).map D.int)
theorem rep_nums {K : PySem.W.Frag} {ι : Io} {H : Hp} : ∀ ns : List Int, RepL K ι H (ns.map D.int) (ns.map V.int)
  | [] => .nil
  | n :: ns => .cons (.int n) (rep_nums ns)
theorem ok_srt {K : PySem.W.Frag} : Ok1 K fSrt (rSortedI K) := by
  intro ι h H e σ Q x d v R q r k
  unfold fSrt at q
  cases q1 : asL h x with
  | none => rw [q1] at q; cases q
  | some xs =>
    rw [q1] at q
    dsimp only at q
    cases q2 : mapO asI xs with
    | none => rw [q2] at q; cases q
    | some ns =>
      rw [q2] at q
      cases q
      obtain ⟨p, vs, rfl, ea, ra⟩ := asL_rep R.rh q1 r
      have ev := rep_ints ra q2
      subst ev
      refine ⟨p, ns, rfl, ea, fun ns' p' hp hs hn => ?_⟩
      have en := srtI_eq hp hs
      subst en
      exact k.new R hn (.newL R.rh hn (rep_nums _))
/-! ### d.get(k, x) -/
def getD2 (x y z : D) (h : Hs) : Option D := match dctAt x h with
  | none => none
  | some (ks, ds) => match keyD ks y with
    | none => none
    | some k => some ((getK ks ds k).getD z)
def dGet (o a b : Den) : Den := fun e h => (o e h).bind fun x h => orBad (dctAt x h) fun _ => (a e h).bind fun y h => (b e h).bind fun z h => .of (getD2 x y z h) h
end
section
variable {X : Cx} {o a b c : Expr} {apos pos : Pos} {dO da db dc : Den}
def tGetK (w : World) (K : PySem.W.Frag) (to : TE) (t : TA) : TE := fun σ H Q => to σ H fun x H1 => (∃ p ob, x = .ref p ∧ H1 p = some (XO p ob) ∧ ob.ExactDict) ∧ t σ H1 fun vs H2 => ∃ d b k xs z, x = .ref d ∧ vs = [.ref b, z] ∧ DKd w K H2 d xs ∧ NK K H2 k (.ref b) ∧ k.depth ≤ 8 ∧ ((atKey xs k = none ∧ Q z H2) ∨ ∃ p u, atKey xs k = some p ∧ RelV u p.2 ∧ Q u H2)
theorem pe_getK {es : List Expr} {to : TE} {t : TA} {e : Expr} (hu : X.A.units + 65 < cLine) (ho : PE X o to) (ha : PA X (e :: es) t) (no : nosuper o = true) (hpl : (e :: es).all plain = true) (hlen : es.length ≤ 2) (hl : (apos.endLine == pos.line) = true) :
    PE X (.Call (.Attribute o "get" apos) (e :: es) [] pos) (tGetK X.w X.K to t) := by
  rw [List.all_cons, Bool.and_eq_true] at hpl
  refine ⟨fun pins s σ H Q I h => ?_⟩
  have hfew : ((backTo pos (starEach (e :: es) X.env)).all (fun x => !x.1) && (backToKw pos (keywordEach [] X.env)).all (fun x => x.1.isSome) && decide ((e :: es).length + ([] : List Keyword).length + (if ([] : List Keyword).isEmpty then 0 else 1) < 30)) = true := by
    have h1 := star_all (env := X.env) (pos := pos) (es := e :: es) (by rw [List.all_cons, hpl.1, hpl.2]; rfl)
    rw [Bool.and_eq_true, Bool.and_eq_true]
    refine ⟨⟨?_, rfl⟩, ?_⟩
    · rw [List.all_eq_true]
      rw [List.any_eq_false] at h1
      intro z hz
      have := h1 z hz
      cases hz1 : z.1 with
      | true => exact absurd hz1 this
      | false => rfl
    · refine decide_eq_true ?_
      rw [List.length_cons]
      show es.length + 1 + 0 + 0 < 30
      omega
  refine wpAny_Call_method_late (abase no) hfew hl rfl (thn (ho.run pins s σ H _ I h) fun v s1 ⟨x, H1, I1, r1, ty, q1⟩ => ?_)
  obtain ⟨p, ob, rfl, hp, hx⟩ := ty
  cases r1
  obtain ⟨hg, _⟩ := I1.hok p _ hp
  refine ⟨"dict", "dict.get", PySem.F.plainAttrs_dict, PySem.F.slot_dict_get, PySem.F.type_dict_get, ⟨ob, hg, hx.1⟩, fun a z => by cases z; exact ⟨ob, hg, hx.2.1⟩, ?_⟩
  have hA := ha.run pos pins s1 σ H1 _ I1 q1
  rw [star_of hpl.1] at hA ⊢
  refine Calls.callWith_builtin (by show (false || (backTo pos (starEach es X.env)).any (·.1)) = false; rw [star_all hpl.2]; rfl) (Calls.evalArgs_plain ?_)
  refine thn hA fun us s2 ⟨vs, H2, I2, r2, d, b, k, xs, z, ed, ev, g, nk, dp, q2⟩ => ?_
  cases ed
  subst ev
  cases r2 with
  | cons rb t =>
  cases t with
  | cons rz t =>
  cases t
  cases rb
  obtain ⟨hm, hd, _⟩ := dk_of I2 g
  refine getOr_keyed (knd := nestedKind X.prog X.w) (by show X.A.units + 1 + 8 < cLine; omega) ⟨nk_is I2 nk rfl, dp⟩ hd ⟨xs, hm, rfl⟩ ?_
  rw [valueAt_pairsH]
  rcases q2 with ⟨qa, q2⟩ | ⟨pr, u, qa, ru, q2⟩
  · rw [qa]
    exact ⟨z, H2, I2.tok _, rz, q2⟩
  · rw [qa]
    exact ⟨u, H2, I2.tok _, ru, q2⟩
theorem vals_getK {kk : NestedKey} : ∀ {vv : List V} {us : List Value} {ks : List NestedKey}, Vals vv us → getK ks us kk = none → getK ks vv kk = none
  | _, _, [], .nil, _ => rfl
  | _, _, _ :: _, .nil, _ => rfl
  | _, _, [], .cons _ _, _ => rfl
  | _, _, k' :: ks, .cons _ t, z => by
    unfold getK at z ⊢
    by_cases c : k' = kk
    · rw [if_pos c] at z; cases z
    · rw [if_neg c] at z ⊢; exact vals_getK t z
theorem repl_getK {K : PySem.W.Frag} {ι : Io} {H : Hp} {kk : NestedKey} : ∀ {ds : List D} {vv : List V} {ks : List NestedKey}, RepL K ι H ds vv → getK ks ds kk = none → getK ks vv kk = none
  | _, _, [], .nil, _ => rfl
  | _, _, _ :: _, .nil, _ => rfl
  | _, _, [], .cons _ _, _ => rfl
  | _, _, k' :: ks, .cons _ t, z => by
    unfold getK at z ⊢
    by_cases c : k' = kk
    · rw [if_pos c] at z; cases z
    · rw [if_neg c] at z ⊢; exact repl_getK t z
theorem s_get (hu : X.A.units + 65 < cLine ∧ TheW.w = X.w) (ho : PE X o (rdE X.K dO)) (ha : PE X a (rdE X.K da)) (hb : PE X b (rdE X.K db)) (no : nosuper o = true) (pa : plain a = true) (pb : plain b = true) (hl : (apos.endLine == pos.line) = true) :
    PE X (.Call (.Attribute o "get" apos) [a, b] [] pos) (rdE X.K (dGet dO da db)) := by
  refine (pe_getK hu.1 ho (a_two ha pa hb pb) no (by rw [List.all_cons, List.all_cons, pa, pb]; rfl) (by show 1 ≤ 2; decide) hl).wkn fun σ H Q ⟨ι, e, h, R, k⟩ => ⟨ι, e, h, R, (Kg.bind k).imp fun v H1 ⟨x, h1, ι1, n1⟩ => ?_⟩
  have k1 := n1.k
  cases q1 : dctAt x h1 with
  | none => rw [q1] at k1; exact k1.elim
  | some kd =>
  rw [q1] at k1
  have k1 : Kd X.K ι1 h1 H1 e σ ((da e h1).bind fun y h => (db e h).bind fun z h => .of (getD2 x y z h) h) Q := k1
  obtain ⟨ks0, ds0⟩ := kd
  obtain ⟨d, kv, vv, rfl, f, rk, rv⟩ := dct_rep n1.R.rh q1 n1.rr
  obtain ⟨ob, es, ep, a1, a2, a3, a4, a5, a6, a7⟩ := fd_raw f
  refine ⟨⟨d, ob, rfl, a1, a3⟩, ι1, e, h1, n1.R, ?_⟩
  show Ka X.K ι1 h1 H1 e σ ((da e h1).bind fun x h => (((db e h).bind fun y h => (aNil e h).bind fun xs h => .ok (y :: xs) h)).bind fun xs h => .ok (x :: xs) h) _
  cases qa : da e h1 with
  | err _ _ => rw [qa] at k1; exact k1
  | bad => rw [qa] at k1; exact k1
  | ok y h2 =>
  rw [qa] at k1
  have k1 : Kd X.K ι1 h1 H1 e σ ((db e h2).bind fun z h => .of (getD2 x y z h) h) Q := k1
  show Ka X.K ι1 h1 H1 e σ (((db e h2).bind fun y h => (aNil e h).bind fun xs h => .ok (y :: xs) h).bind fun xs h => .ok (y :: xs) h) _
  cases qb : db e h2 with
  | err _ _ => rw [qb] at k1; exact k1
  | bad => rw [qb] at k1; exact k1
  | ok z h3 =>
  rw [qb] at k1
  intro ι3 H3 vs x3 R3 rr
  obtain ⟨c, q2, k2⟩ := Kd.of_some (Kg.after k1 x3)
  cases rr with
  | cons ry t =>
  cases t with
  | cons rz t =>
  cases t
  have rx := n1.rr.ext x3
  unfold getD2 at q2
  cases q3 : dctAt x h3 with
  | none => rw [q3] at q2; cases q2
  | some kd =>
  obtain ⟨ks, ds⟩ := kd
  rw [q3] at q2
  dsimp only at q2
  cases q4 : keyD ks y with
  | none => rw [q4] at q2; cases q2
  | some kk =>
  rw [q4] at q2
  dsimp only at q2
  cases q2
  obtain ⟨qk, hT⟩ := keyD_ok q4
  obtain ⟨dd, vv', xs, ed, dk, ek, vs', rl⟩ := rep_dk R3.rh q3 hT rx
  cases ed
  obtain ⟨b', rfl, nk, dp⟩ := keyT_nk qk ry
  have ga := getK_at (xs := xs) (k := kk)
  subst ek
  refine ⟨d, b', kk, xs, _, rfl, rfl, by rw [← hu.2]; exact dk, nk, dp, ?_⟩
  cases qg : getK (xs.map (·.1)) ds kk with
  | none =>
    refine .inl ⟨?_, ?_⟩
    · cases qx : atKey xs kk with
      | none => rfl
      | some p =>
        rw [qx] at ga
        obtain ⟨z', g', r'⟩ := getK_rel (ks := []) vs' ga
        rw [repl_getK rl qg] at g'
        cases g'
    · rw [qg] at k2
      exact k2.here R3 rz
  | some w =>
    obtain ⟨u, gu, ru⟩ := getK_rep rl qg
    rw [qg] at k2
    cases qx : atKey xs kk with
    | none =>
      rw [qx] at ga
      rw [vals_getK vs' ga] at gu
      cases gu
    | some p =>
      rw [qx] at ga
      obtain ⟨z', g', r'⟩ := getK_rel (ks := []) vs' ga
      rw [gu] at g'
      cases g'
      exact .inr ⟨p, u, rfl, r', k2.here R3 ru⟩
end
/-! ### o[k] op= e -/
section
variable {X : Cx} {o a b c : Expr} {apos pos : Pos} {dO da db dc : Den}
theorem get_dk (hu : X.A.units + 65 < cLine) : PGet X (rIxK X.w X.K) := by
  intro pins s σ H o i ov iv Q I ro ri z
  obtain ⟨b, d, k, xs, p, w, rfl, rfl, g, nk, dp, hp, rw', q⟩ := z
  cases ro; cases ri
  obtain ⟨hm, hd, _⟩ := dk_of I g
  exact wpAny_getItem_heap (knd := nestedKind X.prog X.w) (by show X.A.units + 1 + 8 < cLine; omega) ⟨nk_is I nk rfl, dp⟩ hm hp ⟨w, H, I.tok _, rw', q⟩
def augB (op : Operator) : Option (Int → Int → Int) := match op with
  | .Add => some fun i j => i + j
  | .Sub => some fun i j => i - j
  | _ => none
def augS (f : Int → Int → Int) (x k y : D) (h : Hs) : Option Hs := match y with
  | .int j => match k with
    | .tup ys => match ixO x (.tup ys) h with
      | some (.int i) => (match dlvAt h x with
        | some _ => setO x (.tup ys) (.int (f i j)) h
        | none => none)
      | _ => none
    | _ => none
  | _ => none
/-- the item is asked for ahead of e -/
def sAug (f : Int → Int → Int) (o k a : Den) : DenS := fun e h => (o e h).to fun x h => (k e h).to fun y h => match y with
  | .tup ys => (match ixO x (.tup ys) h with
    | some (.int i) => (a e h).to fun z h => (match z with
      | .int j => (match dlvAt h x with
        | some _ => (match setO x (.tup ys) (.int (f i j)) h with
          | some h => .nx e h
          | none => .bad)
        | none => .bad)
      | _ => .bad)
    | _ => .bad)
  | _ => .bad
end
section
variable {X : Cx} {o a b c : Expr} {apos pos : Pos} {dO da db dc : Den}
theorem setT_ok {K : PySem.W.Frag} {ι : Io} {h h' : Hs} {H : Hp} {e : En} {σ : St} {x d : D} {ys : List D} {v w u : V} {p : Nat × List NestedKey × List D} {Qn : Hp → Prop} (R : Rl K ι e h σ H) (qd : dlvAt h x = some p) (q : setO x (.tup ys) d h = some h') (r1 : Rep K ι H x v) (r2 : Rep K ι H (.tup ys) w) (rd : Rep K ι H d u)
    (k : ∀ H', Ext ι h H ι h' H' → Rl K ι e h' σ H' → Qn H') : rSetK TheW.w K v w u H Qn ∨ rSetM TheW.w K v w u H Qn := by
  obtain ⟨m, ks, ds⟩ := p
  unfold setO at q
  rw [qd] at q
  dsimp only at q
  cases qk : keyS ks (.tup ys) with
  | none => rw [qk] at q; cases q
  | some kk =>
    rw [qk] at q
    dsimp only at q
    split at q
    · rename_i hd
      split at q
      · rename_i hz
        cases q
        have hm : h[m]? = some (.live (.dct ks ds)) ∧ x = .ref m := by
          unfold dlvAt at qd
          cases x <;> try cases qd
          dsimp only at qd
          split at qd
          · rename_i e; cases qd; exact ⟨e, rfl⟩
          · cases qd
        obtain ⟨hm, rfl⟩ := hm
        obtain ⟨a, qa, ⟨kv, vv, ⟨o0, e0, dk, e5⟩, rk, rv⟩, un⟩ := R.rh.cell m _ (.inl hm)
        have ew : v = .ref a := by
          cases r1 with
          | ref e => rw [qa] at e; cases e; rfl
          | dead e => rw [qa] at e; cases e
        subst ew
        refine setk_rep e0 dk e5 rk qk hz r2 rv rd fun ob kv' vv' dk' rk' rv' => ?_
        have x3 : Ext ι h H ι (h.set m (.live (.dct (putKs ks kk) (putL ks ds kk d)))) (upd H a (XO a ob)) := cell_extO R.rh hm qa
        exact k _ x3 ⟨cell_rhO R.rh hm qa ⟨kv', vv', ⟨ob, upd_same, dk', e5⟩, rk'.ext x3, rv'.ext x3⟩ (undAll_putL hd un), R.re.ext x3⟩
      · cases q
    · cases q
theorem p_aug {op : Operator} {f : Int → Int → Int} {tpos : Pos} (hu : X.A.units + 65 < cLine ∧ TheW.w = X.w) (hf : augB op = some f) (ho : PE X o (rdE X.K dO)) (hb : PE X b (rdE X.K db)) (ha : PE X a (rdE X.K da)) (hs : ∀ ov iv new, augStore b ov iv new = (do holding [new, ov, iv] (setItem ov iv new); release [new, ov, iv] []; pure .next)) :
    PS X (.AugAssign (.Subscript o b tpos) op a pos) (rdS X.K (sAug f dO db da)) := by
  have ip : PIp X op (ipI f) := by
    cases op <;> cases hf
    · exact ip_add
    · exact ip_sub
  refine (ps_augS ho hb (show PGet X (rIxK TheW.w X.K) by rw [hu.2]; exact get_dk hu.1) ha ip (pset_or (show PSet X (rSetK TheW.w X.K) by rw [hu.2]; exact set_dk hu.1) (show PSet X (rSetM TheW.w X.K) by rw [hu.2]; exact set_dm hu.1)) hs).wkn fun Z σ H ⟨ι, e, h, R, k⟩ => ?_
  refine ⟨ι, e, h, R, (KS.bind (RR := Rep X.K) k).imp fun v H1 ⟨x, h1, ι1, x1, R1, r1, k1⟩ => ⟨ι1, e, h1, R1, (KS.bind (RR := Rep X.K) k1).imp fun w H2 ⟨y, h2, ι2, x2, R2, r2, k2⟩ => ?_⟩⟩
  cases y <;> try exact k2.elim
  rename_i ys
  dsimp only at k2
  cases q1 : ixO x (.tup ys) h2 with
  | none => rw [q1] at k2; exact k2.elim
  | some it =>
  rw [q1] at k2
  cases it <;> try exact k2.elim
  rename_i i
  dsimp only at k2
  have r1 := r1.ext x2
  refine ixD_ok (e := e) (σ := σ) R2 q1 r1 r2 ?_
  intro ι3 H3 vi x3 R3 r3
  cases r3
  refine ⟨ι3, e, h2, R3, (KS.bind (RR := Rep X.K) (KS.after k2 x3)).imp fun u H4 ⟨z, h4, ι4, x4, R4, r4, k4⟩ => ?_⟩
  cases z <;> try exact k4.elim
  rename_i j
  cases r4
  dsimp only at k4
  cases q2 : dlvAt h4 x with
  | none => rw [q2] at k4; exact k4.elim
  | some p =>
  rw [q2] at k4
  dsimp only at k4
  cases q3 : setO x (.tup ys) (.int (f i j)) h4 with
  | none => rw [q3] at k4; exact k4.elim
  | some h5 =>
  rw [q3] at k4
  exact ⟨i, j, rfl, rfl, setT_ok R4 q2 q3 ((r1.ext x3).ext x4) ((r2.ext x3).ext x4) (.int _) fun H' x5 R5 => k4 ι4 σ H' x5 R5⟩
/-! ### d == {} -/
theorem eq_empty {prog : Program} {w : World} {A : Around} {E : Value → Shared → Prop} {s : Shared} {a b : Addr} {oa ob : Obj} {es : Array DictEntry} {ep ep' : Nat} {Q : Value → Shared → Prop} (ha : (a == sysModules) = false) (hb : (b == sysModules) = false)
    (ga : s.heap.get? a = some oa) (xa : oa.ExactDict) (da : oa.data = .dict es ep) (gb : s.heap.get? b = some ob) (xb : ob.ExactDict) (db : ob.data = .dict #[] ep') (hu : A.units < cLine) (h : Q (.bool (es.size == 0)) s) :
    wpAny (model prog w) A (compareOp .Eq (.ref a) (.ref b)) Q E s := by
  have ta : s.TypeIs (.ref a) "dict" := ⟨oa, ga, xa.1⟩
  have tb : s.TypeIs (.ref b) "dict" := ⟨ob, gb, xb.1⟩
  refine wpAny_richCompare_same_room (op := .Eq) ta tb PySem.F.slot_dict_eq (wpAny_call_entry PySem.F.slot_dict_eq ta PySem.F.entry_dict_eq ?_ (PySem.F.args_dict_eq_2 _ _)) hu
  show wpAny _ _ (Builtin.Dict.dictSlotArgs "__eq__" ⟨[.ref a, .ref b], []⟩ >>= _) _ _ s
  refine wpAny_bind ?_
  unfold Builtin.Dict.dictSlotArgs
  refine wpAny_bind (wpAny_notOrdered_dict ta (wpAny_pure ?_))
  refine wpAny_bind (wpAny_isInstance (T := "dict") tb PySem.F.sub_dict_dict ?_)
  rw [if_neg (by decide)]
  refine wpAny_bind (wpAny_pure (wpAny_bind (wpAny_pure ?_)))
  refine wpAny_bind ?_
  unfold Builtin.Dict.samePairs Builtin.Dict.showsAll
  rw [if_neg (by rw [ha]; decide), if_neg (by rw [hb]; decide)]
  refine wpAny_bind (wpAny_pure (wpAny_bind (wpAny_pure ?_)))
  refine wpAny_bind (wpAny_dictEntries ga da ?_)
  dsimp only
  refine wpAny_bind (wpAny_dictEntries gb db ?_)
  by_cases z : es.size = 0
  · rw [if_neg (by rw [z]; decide)]
    refine wpAny_bind (wpAny_dictEpoch ga da ?_)
    refine wpAny_bind ?_
    rw [Std.Legacy.Range.forIn_eq_forIn_range']
    simp only [Std.Legacy.Range.size, Nat.sub_zero, Nat.add_sub_cancel, Nat.div_one, z]
    rw [show List.range' 0 0 1 = [] from rfl, List.forIn_nil]
    refine wpAny_pure (wpAny_pure (wpAny_pure ⟨_, rfl, (fun x => nomatch x), ?_⟩))
    rw [z] at h
    exact h
  · rw [if_pos (by simpa using z)]
    have e0 : (es.size == 0) = false := by simpa using z
    rw [e0] at h
    exact wpAny_bind (wpAny_rule (wpAny_pure (wpAny_pure ⟨_, rfl, (fun x => nomatch x), h⟩)))
end
/-! ### a test of d == {} -/
section
variable {X : Cx} {o a b c : Expr} {apos pos : Pos} {dO da db dc : Den}
def rEq0 : R2 := fun x y H Q => ∃ d p o ob es ep ep', x = .ref d ∧ y = .ref p ∧ H d = some (XO d o) ∧ H p = some (XO p ob) ∧ (d == sysModules) = false ∧ (p == sysModules) = false ∧ o.ExactDict ∧ o.data = .dict es ep ∧ ob.ExactDict ∧ ob.data = .dict #[] ep' ∧ Q (.bl (es.size == 0)) H
theorem op_eq0 (hu : X.A.units + 65 < cLine) : OpR X (compareOp .Eq) rEq0 := by
  intro pins s σ H x y v u Q I rx ry z
  obtain ⟨d, p, o, ob, es, ep, ep', rfl, rfl, h1, h2, n1, n2, x1, d1, x2, d2, q⟩ := z
  cases rx; cases ry
  obtain ⟨g1, _⟩ := I.hok d _ h1
  obtain ⟨g2, _⟩ := I.hok p _ h2
  exact eq_empty n1 n2 g1 x1 d1 g2 x2 d2 (by omega) ⟨.bl _, H, I, rfl, q⟩
def tDe0 (a : Den) : DenT := fun e h => (a e h).bind fun x h => match dctAt x h with
  | none => .bad
  | some (ks, _) => .ok ks.isEmpty h
theorem de0_core {σ : St} {H : Hp} {Q : VK} {ι : Io} {e : En} {h : Hs} (R : Rl X.K ι e h σ H) (k : Kb X.K ι h H e σ (tDe0 da e h) fun b H' => Q (.bl b) H') : tOp rEq0 (rdE X.K da) (fun σ H Q => ∀ p ob, H p = none → DEnt X.w ob [] → (p == sysModules) = false → Q (.ref p) (upd H p (XO p ob))) σ H Q := by
  refine ⟨ι, e, h, R, (Kg.bind k).imp fun v H1 ⟨x, h1, ι1, n1⟩ => ?_⟩
  intro p ob hp de hs
  have k1 := n1.k
  cases q1 : dctAt x h1 with
  | none => rw [q1] at k1; exact k1.elim
  | some kd =>
    obtain ⟨ks, ds⟩ := kd
    rw [q1] at k1
    obtain ⟨d, kv, vv, rfl, f, rk, rv⟩ := dct_rep n1.R.rh q1 n1.rr
    obtain ⟨o, es, ep, a1, a2, a3, a4, a5, a6, a7⟩ := fd_raw f
    obtain ⟨xo, ⟨es', ep', d2, l2⟩, _⟩ := de
    have e0 : es' = #[] := by
      rw [List.map_nil] at l2
      exact Array.toList_eq_nil_iff.mp l2
    subst e0
    have l1 : kv.length = es.size := by have := a5.length; rw [List.length_map, Array.length_toList] at this; exact this
    have k2 : Q (.bl ks.isEmpty) (upd H1 p (XO p ob)) := Kg.new (RR := RB) k1 n1.R hp rfl
    have e1 : ks.isEmpty = (es.size == 0) := by
      rw [← l1, ← a7]; cases ks <;> rfl
    rw [e1] at k2
    exact ⟨d, p, o, ob, es, ep, ep', rfl, rfl, by rw [upd_ne (ne_of_none a1 hp)]; exact a1, upd_same, a2, hs, a3, a4, xo, d2, k2⟩
theorem t_de0 {p2 : Pos} (hu : X.A.units + 65 < cLine ∧ TheW.w = X.w) (ha : PE X a (rdE X.K da)) : PT X (.Compare a [.Eq] [.Dict [] [] p2] pos) (rdT X.K (tDe0 da)) := by
  refine (pt_cmpR (op_eq0 hu.1) ha pe_dnewN (nomark _)).wkn fun σ H Q ⟨ι, e, h, R, k⟩ => ?_
  exact de0_core (Q := fun x H' => ∃ k, x = .bl k ∧ Q k H') R (k.imp fun b H' z => ⟨b, rfl, z⟩)
theorem s_de0 {p2 : Pos} (hu : X.A.units + 65 < cLine ∧ TheW.w = X.w) (ha : PE X a (rdE X.K da)) : PE X (.Compare a [.Eq] [.Dict [] [] p2] pos) (rdE X.K (dOf (tDe0 da))) := by
  refine (pe_cmpR (op_eq0 hu.1) ha pe_dnewN (nomark _)).wkn fun σ H Q ⟨ι, e, h, R, k⟩ => ?_
  refine de0_core R ?_
  unfold dOf at k
  exact (Kg.bind (RR := RB) k).imp fun b H' ⟨b', h1, ι1, n1⟩ => by
    cases n1.rr
    exact n1.k.here n1.R (.bl _)
end
end Ev
/-! EvDd: dict comprehensions whose keys are tuples, or ints. -/
namespace Ev
open PySem PySem.Spec L2
open PyProof.Rows hiding St
section
variable {X : Cx} {pins : List (Addr × Obj)} {σ : St} {H : Hp} {s : Shared} {F : Value → Shared → Prop} {Dd : Addr} {y z : V} {ky vz : Value} {q : Hp → Prop}
theorem put_dk (hu : X.A.units + 65 < cLine) (I : Inv X pins σ H s) (ry : RelV y ky) (rz : RelV z vz) (p : rPut X.w X.K Dd y z H q) : wpAny (model X.prog X.w) X.A (dictSet Dd ky vz) (fun _ s' => ∃ H', Inv X pins σ H' s' ∧ q H') F s := by
  rcases p with ⟨b, d, k, xs, e1, rfl, g, nk, dp, lt, p⟩ | ⟨d, k, xs, ob0, kv, e1, nk, ns, dp, hd0, de, nks, vs, lt, p⟩
  · cases e1
    cases ry
    obtain ⟨hm, hd, hz⟩ := dk_of I g
    have hk : (nestedKind X.prog X.w).is s.heap k b := ⟨nk_is I nk rfl, dp⟩
    refine wpAny_dictSet_heap (knd := nestedKind X.prog X.w) (hsz := hz) (by show X.A.units + 8 < cLine; omega) hk hm fun h1 dd sb => ?_
    obtain ⟨ob, es, ep, hq, h2, h3, h4, h6, h5⟩ := dd
    obtain ⟨o0, ho0, _⟩ := g
    have ln : (storedH xs k b vz).length ≤ sizeLine := by
      unfold storedH
      split
      · rw [List.length_map]; exact hz
      · rw [List.length_append, List.length_singleton]; omega
    exact ⟨upd H Dd (XO Dd ob), d_write I (by rw [ho0]; exact True.intro) sb ⟨ob, hq⟩ ⟨hq, ⟨ob, hq⟩, fun a1 a2 e k => k ob e⟩, p vz ob rz ⟨h2, ⟨es, ep, h3, h4⟩, h5, ln, fun x hx => (h6 x hx).2⟩⟩
  · cases e1
    exact dset_inv (by show X.A.units + 8 < cLine; omega) I ry rz nk ns dp hd0 de nks vs lt p
end
/-- {k: v for target in it if ..} -/
def tDcN (w : World) (K : PySem.W.Frag) (wi : TI) (g : TG) (tt : TT) (tk tv : TE) (vs : List Nat) : TE := fun σ H Q => wi σ H fun J H1 => ∀ Dd ob0, H1 Dd = none → DEnt w ob0 [] → (Dd == sysModules) = false →
  ∃ W : Nat → Nat → Hp → Prop, (∃ m, W 0 m (upd H1 Dd (XO Dd ob0))) ∧ ∀ i m H, W i m H → (J.stop i H ∧ Q (.ref Dd) H) ∨ (J.go i H ∧ ∃ Nx : Hp → Prop, (∀ H', Nx H' → ∃ m', m' < m ∧ W (i + 1) m' H') ∧
    ∀ x H', J.yld i H x H' → g x (wipe σ vs) H' fun σ2 H2 => wipe σ2 vs = wipe σ vs ∧ tt σ2 H2 fun b H3 => if b = true then tk σ2 H3 fun y H4 => tv σ2 H4 fun z H5 => rPut w K Dd y z H5 Nx else Nx H3)
section
variable {X : Cx} {kx vx tg iter : Expr} {ifs : List Expr} {scope : Scope} {own : List (Str × Nat)} {pos pos' : Pos} {wi : TI} {g : TG} {tt : TT} {tk tv : TE}
theorem dcn_core {pins : List (Addr × Obj)} {s : Shared} {σ : St} {H : Hp} {Q : VK} {use : Option (Value → Sem Unit)} {Qf : Value → Shared → Prop} (hu : X.A.units + 65 < cLine)
    (hc : X.calm = true) (hN : X.N.Nodup) (I : Inv X pins σ H s) (hi : PI X tg iter wi) (ok : BlkOk X.N X.env.scope scope own)
    (hg : ∀ (t : Shared) (G : Hp) (C : Addr) (cl : List (Str × Addr)) (fp : List Addr), PG (X.blk t G scope (compEnvC scope cl C X.env) fp) tg g)
    (ht : ∀ (t : Shared) (G : Hp) (C : Addr) (cl : List (Str × Addr)) (fp : List Addr), PTs (X.blk t G scope (compEnvC scope cl C X.env) fp) ifs tt)
    (hk : ∀ (t : Shared) (G : Hp) (C : Addr) (cl : List (Str × Addr)) (fp : List Addr), PE (X.blk t G scope (compEnvC scope cl C X.env) fp) kx tk)
    (he : ∀ (t : Shared) (G : Hp) (C : Addr) (cl : List (Str × Addr)) (fp : List Addr), PE (X.blk t G scope (compEnvC scope cl C X.env) fp) vx tv)
    (hs : ∀ x, foldedSetIterable iter X.env x = pure x) (h : tDcN X.w X.K wi g tt tk tv (own.map (·.2)) σ H Q)
    (fin : ∀ Dd C s' m H', Inv X pins σ H' s' → Q (.ref Dd) H' → s'.heap.Ns C m → FpOk X pins H' C → compPost (model X.prog X.w) X.A X.xe use Qf (.ref Dd) C (.ok .next) s') :
    wpAny (model X.prog X.w) X.A (comprehension (.DictComp kx vx [⟨tg, iter, ifs, 0⟩] scope pos) scope X.env pos' newDict false (eval iter X.env) use) Qf X.xe s := by
  have fr : ∀ y ∈ scope.names, y.2 = .free → ∃ c, X.env.cells.lookup y.1 = some c := fun y hy e =>
    (ok.free y hy e).elim (fun k => I.ok.has _ (.inl k)) fun k => I.ok.has _ (.inr k)
  refine wpAny_comprehension_free (use := use) rfl hs (closure_ok fr) ok.kind (fun y hy e => by rw [ok.uniq y hy, e]) ?_
  refine thn (hi.run pins s σ H _ I h) fun xv s1 hx => thn hx fun itv s2 h2 => ?_
  obtain ⟨it, fp, tn, J, H2, e, I2, T, st2, f2, q⟩ := h2
  subst e
  refine wpAny_newObj_type (newEnv_comp ?_)
  have hDn : H2 s2.heap.objs.size = none := I2.hok.fresh (Nat.le_refl _)
  have hsys : (s2.heap.objs.size == sysModules) = false := beq_eq_false_iff_ne.mpr (Nat.ne_of_gt I2.big)
  have de0 : DEnt X.w { cls := .type "dict", data := .dict #[] } [] := ⟨⟨rfl, rfl, rfl⟩, ⟨#[], 0, rfl, rfl⟩, List.nodup_nil, Nat.zero_le _, fun x hx => by cases hx⟩
  obtain ⟨W, ⟨m0, w0⟩, turn⟩ := q s2.heap.objs.size _ hDn de0 hsys
  -- the dict that is made
  obtain ⟨H3, eH3⟩ : ∃ H3, H3 = upd H2 s2.heap.objs.size (XO s2.heap.objs.size { cls := .type "dict", data := .dict #[] }) := ⟨_, rfl⟩
  generalize es3 : ({ s2 with heap := s2.heap.push { cls := .type "dict", data := .dict #[] } } : Shared) = s3
  have I3 : Inv X pins σ H3 s3 := by
    rw [eH3, ← es3]
    exact I2.laid (t' := s2.toks) (fun _ _ q => Heap.get?_push_of_some _ q) (Nat.le_refl _) ⟨Heap.get?_push_size _ rfl, ⟨_, Heap.get?_push_size _ rfl⟩, fun h1 h2 e k => k _ e⟩
  rw [← eH3] at w0
  have f3 : ∀ b ∈ fp, FpOk X pins H3 b ∧ b < s3.heap.objs.size := fun b hb => by
    obtain ⟨o, eo, _⟩ := T.obj _ _ st2 b hb
    have lt := Heap.lt_size eo
    refine ⟨⟨?_, (f2 b hb).2⟩, ?_⟩
    · rw [eH3, upd_ne (Nat.ne_of_lt lt)]; exact (f2 b hb).1
    · rw [← es3]; show b < (s2.heap.push _).objs.size; rw [Heap.size_push]; exact Nat.lt_succ_of_lt lt
  have st3 : tn 0 s3.heap := T.keep _ _ _ st2 fun b _ o e => by rw [← es3]; exact Heap.get?_push_of_some _ e
  have I4 := block_start I3 ok hN f3
  obtain ⟨ce, ece⟩ : ∃ ce, ce = compEnvC scope (cellsFrom (s3.heap.objs.size + 1) scope.names (cloFrom X.env.cells scope.names [])) s3.heap.objs.size X.env := ⟨_, rfl⟩
  have pg := hg s3 H3 s3.heap.objs.size (cellsFrom (s3.heap.objs.size + 1) scope.names (cloFrom X.env.cells scope.names [])) fp
  have pt := ht s3 H3 s3.heap.objs.size (cellsFrom (s3.heap.objs.size + 1) scope.names (cloFrom X.env.cells scope.names [])) fp
  have pk := hk s3 H3 s3.heap.objs.size (cellsFrom (s3.heap.objs.size + 1) scope.names (cloFrom X.env.cells scope.names [])) fp
  have pe := he s3 H3 s3.heap.objs.size (cellsFrom (s3.heap.objs.size + 1) scope.names (cloFrom X.env.cells scope.names [])) fp
  obtain ⟨s4, es4⟩ : ∃ s4 : Shared, s4 = { s3 with heap := pushCells (s3.heap.push { cls := .type "dict", data := .dict #[] }) scope.names } := ⟨_, rfl⟩
  rw [← ece] at I4 pg pt pk pe
  rw [← es4] at I4
  show codeAny _ _ (.compStart (.DictComp kx vx [⟨tg, iter, ifs, 0⟩] scope pos) 0 (.ref it) (.ref s2.heap.objs.size) (compEnvC scope (cellsFrom (s3.heap.objs.size + 1) scope.names (cloFrom X.env.cells scope.names [])) s3.heap.objs.size X.env)) (compPost (model X.prog X.w) X.A X.xe use Qf (.ref s2.heap.objs.size) s3.heap.objs.size) { s3 with heap := pushCells (s3.heap.push { cls := .type "dict", data := .dict #[] }) scope.names }
  rw [← ece, ← es4]
  have cL : ce.locals = s3.heap.objs.size := by rw [ece]; rfl
  have st4 : tn 0 s4.heap := T.keep _ _ _ st3 fun b _ o e => by rw [es4]; exact pushCells_keeps _ _ _ _ (Heap.get?_push_of_some _ e)
  have nfp : ∀ b ∈ fp, H3 b = none := fun b hb => (f3 b hb).1.1
  have stat : ∀ {τ : St} {G : Hp} {t : Shared}, Inv (X.blk s3 H3 scope ce fp) [] τ G t → (∀ b ∈ fp, G b = none) → ∀ b ∈ fp, FpOk (X.blk s3 H3 scope ce fp) [] G b := fun {τ G t} J' hn b hb =>
    ⟨hn b hb, (J'.ok.exf b hb).1, J'.ok.exfs b hb, .inl hb, fun x c e => (J'.ok.exf b hb).2 x c e, fun p hp => absurd (show p ∈ ([] : List (Addr × Obj)) ++ [] from hp) (by simp)⟩
  clear es3 es4 eH3 ece
  have loop : codeAny (model X.prog X.w) X.A (.compLoop (.DictComp kx vx [⟨tg, iter, ifs, 0⟩] scope pos) 0 (.ref it) (.ref s2.heap.objs.size) ce) (compPost (model X.prog X.w) X.A X.xe use Qf (.ref s2.heap.objs.size) s3.heap.objs.size) s4 := by
    refine compLoop_anyD (fun n t => ∃ i G, Inv (X.blk s3 H3 scope ce fp) [] (wipe σ (own.map (·.2))) G t ∧ tn i t.heap ∧ (∀ b ∈ fp, G b = none) ∧ W i n G) ?_ m0 ⟨0, H3, I4, st4, nfp, w0⟩
    rintro n s5 ⟨i, H5, I5, st5, n5, w5⟩
    rcases turn i n H5 w5 with ⟨stop, qq⟩ | ⟨go, Nx, hNx, step⟩
    · refine thnF (T.done (X.blk s3 H3 scope ce fp) rfl rfl rfl hc i [] s5 _ H5 (fun _ _ => False) I5 (stat I5 n5) st5 stop) fun r s6 ⟨hr, I6⟩ => ?_
      subst hr
      have I7 : Inv X pins σ H5 s6 := I3.call' (ch := fp) I6.os I6.base I6.hok I6.bare fun b hb => by
        obtain ⟨_, z1, _, z3, z4, z5⟩ := (f3 b hb).1
        exact ⟨z3, z1, z4, z5⟩
      have nC : H5 s3.heap.objs.size = none := by have z := I6.free; rw [← cL]; exact z
      obtain ⟨m, hn, _⟩ := I6.loc
      have hn : s6.heap.Ns s3.heap.objs.size m := by rw [← cL]; exact hn
      exact fin _ _ s6 m H5 I7 qq hn (I3.fpOk (Nat.le_refl _) nC)
    · refine thnF (T.item (X.blk s3 H3 scope ce fp) rfl rfl rfl hc i [] s5 _ H5 (fun _ _ => False) I5 (stat I5 n5) st5 go) fun r s6 ⟨u, hr, h6⟩ => ?_
      subst hr
      refine thnF h6 fun _ s7 ⟨x, H7, I7, r7, y7, st7, n7⟩ => ?_
      refine thnF (pg.run _ s7 _ H7 x u _ (I7.pinned (stat I7 n7) (T.obj _ _ st7)) r7 (step x H7 y7)) fun _ s8 ⟨σ8, H8, I8, hw8, q8⟩ => ?_
      refine thnF (pt.run _ s8 σ8 H8 _ I8 q8) fun b s9 ⟨H9, I9, q9⟩ => ?_
      have done : ∀ {t : Shared} {G : Hp}, Inv (X.blk s3 H3 scope ce fp) ([] ++ pinsAt fp s7.heap) σ8 G t → Nx G → ∃ m, m < n ∧ ∃ i G, Inv (X.blk s3 H3 scope ce fp) [] (wipe σ (own.map (·.2))) G t ∧ tn i t.heap ∧ (∀ b ∈ fp, G b = none) ∧ W i m G := fun {t G} J' nx => by
        obtain ⟨m', hm, w'⟩ := hNx G nx
        have pin' : ∀ b ∈ fp, ∀ o, s7.heap.get? b = some o → t.heap.get? b = some o ∧ G b = none := fun b hb o e => by
          obtain ⟨z1, z2, _⟩ := J'.pin (b, o) (List.mem_append_right _ (List.mem_append_right _ (mem_pinsAt hb e)))
          exact ⟨z1, z2⟩
        refine ⟨m', hm, i + 1, G, (J'.unpinned (pins := [])).weak (by rw [← hw8, wipe_length]) (fun j v e => ?_), T.keep _ _ _ st7 fun b hb o e => (pin' b hb o e).1, fun b hb => ?_, w'⟩
        · rw [← hw8] at e; exact (wipe_some e).1
        · obtain ⟨o, e, _⟩ := T.obj _ _ st7 b hb; exact (pin' b hb o e).2
      cases b with
      | false => rw [if_neg (by decide)] at q9 ⊢; exact done I9 q9
      | true =>
        rw [if_pos rfl] at q9 ⊢
        refine thnF (pk.run _ s9 σ8 H9 _ I9 q9) fun z s10 ⟨yk, H10, I10, r10, q10⟩ => ?_
        refine thnF (pe.run _ s10 σ8 H10 _ I10 q10) fun z2 s11 ⟨yv, H11, I11, r11, pp⟩ => ?_
        exact wpAny_mono (put_dk (X := X.blk s3 H3 scope ce fp) hu I11 r10 r11 pp) (fun _ s12 ⟨H12, I12, nx⟩ => done I12 nx) fun _ _ z => z
  exact codeAny_compStart_dict loop (T.self X.A 0 _ _ _ st4 loop)
theorem pe_dcn (hu : X.A.units + 65 < cLine) (hc : X.calm = true) (hN : X.N.Nodup) (hi : PI X tg iter wi) (ok : BlkOk X.N X.env.scope scope own)
    (hg : ∀ (t : Shared) (G : Hp) (C : Addr) (cl : List (Str × Addr)) (fp : List Addr), PG (X.blk t G scope (compEnvC scope cl C X.env) fp) tg g)
    (ht : ∀ (t : Shared) (G : Hp) (C : Addr) (cl : List (Str × Addr)) (fp : List Addr), PTs (X.blk t G scope (compEnvC scope cl C X.env) fp) ifs tt)
    (hk : ∀ (t : Shared) (G : Hp) (C : Addr) (cl : List (Str × Addr)) (fp : List Addr), PE (X.blk t G scope (compEnvC scope cl C X.env) fp) kx tk)
    (he : ∀ (t : Shared) (G : Hp) (C : Addr) (cl : List (Str × Addr)) (fp : List Addr), PE (X.blk t G scope (compEnvC scope cl C X.env) fp) vx tv)
    (hs : ∀ x, foldedSetIterable iter X.env x = pure x) : PE X (.DictComp kx vx [⟨tg, iter, ifs, 0⟩] scope pos) (tDcN X.w X.K wi g tt tk tv (own.map (·.2))) := by
  refine ⟨fun pins s σ H Q I h => ?_⟩
  rw [arm_eval_DictComp]
  refine dcn_core hu hc hN I hi ok hg ht hk he hs h fun Dd C s1 m G J q hn f => ⟨m, hn, fun h2 sb => ?_⟩
  obtain ⟨f0, f1, f2, f3, f4, f5⟩ := f
  exact ⟨.ref Dd, G, J.turned (t' := s1.toks) (fun b o hb e => (sb.2 b hb).trans e) f0 f1 f3 f4 f5, rfl, q⟩
/-- y = {..}, y a plain local -/
theorem ps_setDcn {i : Nat} {y : Str} {py spos : Pos} (hu : X.A.units + 65 < cLine) (hc : X.calm = true) (hN : X.N.Nodup) (hy : X.N[i]? = some y) (hyl : X.env.scope.names.lookup y = some .local) (hk : X.env.scope.kind = .function) (hl : (py.line == pos.line) = true) (hq : (scope.names.any fun (n, k) => n == y && (k == .local || k == .cell)) = false)
    (hi : PI X tg iter wi) (ok : BlkOk X.N X.env.scope scope own)
    (hg : ∀ (t : Shared) (G : Hp) (C : Addr) (cl : List (Str × Addr)) (fp : List Addr), PG (X.blk t G scope (compEnvC scope cl C X.env) fp) tg g)
    (ht : ∀ (t : Shared) (G : Hp) (C : Addr) (cl : List (Str × Addr)) (fp : List Addr), PTs (X.blk t G scope (compEnvC scope cl C X.env) fp) ifs tt)
    (hkx : ∀ (t : Shared) (G : Hp) (C : Addr) (cl : List (Str × Addr)) (fp : List Addr), PE (X.blk t G scope (compEnvC scope cl C X.env) fp) kx tk)
    (he : ∀ (t : Shared) (G : Hp) (C : Addr) (cl : List (Str × Addr)) (fp : List Addr), PE (X.blk t G scope (compEnvC scope cl C X.env) fp) vx tv)
    (hs : ∀ x, foldedSetIterable iter X.env x = pure x) : PS X (.Assign [.Name y py] (.DictComp kx vx [⟨tg, iter, ifs, 0⟩] scope pos) spos) (tAsg (tDcN X.w X.K wi g tt tk tv (own.map (·.2))) (gName i)) := by
  have hsw : swapsWith (.DictComp kx vx [⟨tg, iter, ifs, 0⟩] scope pos) (some (.Name y py)) spos.line X.env = pure true := by
    have z1 : X.env.blockKind = .function := by unfold Env.blockKind; rw [hk]; rfl
    have z2 : X.env.kindOf y = some .local := hyl
    show (pure (X.env.blockKind == .function && X.env.kindOf y == some .local && py.line == pos.line && !(scope.names.any fun (n, k) => n == y && (k == .local || k == .cell))) : Sem Bool) = _
    rw [z1, z2, hl, hq]; rfl
  refine ⟨fun pins s σ H D I h => ?_⟩
  rw [exec_Assign_Name_used _ _ _ _ hsw]
  refine wpAny_bind (wpAny_standAt (wpAny_bind ?_))
  show wpAny _ X.A (do let _ ← comprehension (.DictComp kx vx [⟨tg, iter, ifs, 0⟩] scope pos) scope X.env (firstIterPos [⟨tg, iter, ifs, 0⟩] pos) newDict false (eval iter X.env) (some (assign (.Name y py) X.env))) _ _ s
  refine wpAny_bind (thn (dcn_core (Q := fun x H1 => gName i x σ H1 D.nx) (Qf := fun _ s' => SP X pins D .next s') hu hc hN I hi ok hg ht hkx he hs h fun Dd C s1 m G J q hn f => ?_) fun _ s' hq => wpAny_pure (wpAny_pure hq))
  show wpAny _ _ (assign (.Name y py) X.env (.ref Dd)) _ _ _
  refine wpAny_assign_Name (store_ok2 (v := V.ref Dd) J hN hy (.inl hyl) rfl (fun s2 I2 ⟨a, sb, ha⟩ => ?_) (.inr hyl))
  obtain ⟨f0, f1, f2, f3, f4, f5⟩ := f
  have ne : C ≠ a := ha.elim (fun z => by rw [z]; exact f1) fun z e => f4 y a z e.symm
  exact ⟨m, hn.sameBut sb ne, fun h3 sb3 => ⟨_, G, I2.turned (t' := s2.toks) (fun b o hb e => (sb3.2 b hb).trans e) f0 f1 f3 f4 f5, q⟩⟩
end
def compD (g : CT) (t : DenT) (kx vx : Den) (e₀ : En) : List D → List NestedKey → List D → Hs → Res (List NestedKey × List D)
  | [], ks, ds, h => .ok (ks, ds) h
  | x :: xs, ks, ds, h => orBad (g.put x e₀) fun e₁ => (t e₁ h).bind fun b h => if b = true then (kx e₁ h).bind fun y h => (vx e₁ h).bind fun z h => orBad (keyS ks y) fun k => if ks.length < sizeLine then compD g t kx vx e₀ xs (putKs ks k) (putL ks ds k z) h else .bad else compD g t kx vx e₀ xs ks ds h
def compDR (s : Src) (h : Hs) (r : Res (List NestedKey × List D)) : Res (List NestedKey × List D) := match r with
  | .ok p h' => .ok p (unlockS s.lk h h')
  | _ => .bad
def dDcp (own : List Nat) (it : DenI) (g : CT) (t : DenT) (kx vx : Den) (e : En) (h : Hs) : Res (List NestedKey × List D) := (it e h).bind fun s h => if s.items.length ≤ sizeLine then compDR s h (compD g t kx vx (wipeE e own) s.items [] [] (lockS s.lk h)) else .bad
/-- never changed; in a cell -/
def dDcF (own : List Nat) (it : DenI) (g : CT) (t : DenT) (kx vx : Den) : Den := fun e h => (dDcp own it g t kx vx e h).bind fun p h => .ok (.dct p.1 p.2) h
def dDcN (own : List Nat) (it : DenI) (g : CT) (t : DenT) (kx vx : Den) : Den := fun e h => (dDcp own it g t kx vx e h).bind fun p h => if D.undAll h.length p.2 = true then .ok (.ref h.length) (h ++ [.live (.dct p.1 p.2)]) else .bad
section
variable [TheW] {K : PySem.W.Frag} {ι ι1 ι' : Io} {h h1 h' : Hs} {H H1 H' : Hp} {e : En} {σ : St} {Dd : Addr}
theorem unlock_rh {n : Nat} {h₀ : Hs} (R : RH K ι' h' H') : RH K ι' (unlockC n h₀ h') H' := by
  unfold unlockC
  split
  · split
    · rename_i o q
      have hl : n < h'.length := (List.getElem?_eq_some_iff.mp q).1
      refine ⟨by rw [List.length_set]; exact R.len, R.gs, R.gd, fun k z => ?_, fun k u z => ?_, R.inj⟩
      · by_cases y : n = k
        · subst y; rw [List.getElem?_set_self hl] at z; cases z
        · rw [List.getElem?_set_ne y] at z; exact R.dead k z
      · by_cases y : n = k
        · subst y
          rw [List.getElem?_set_self hl] at z
          rcases z with z | z
          · cases z; exact R.cell n o (.inr q)
          · cases z
        · rw [List.getElem?_set_ne y] at z; exact R.cell k u z
    · exact R
  · exact R
theorem unlockS_rh {l : Option Nat} {h₀ : Hs} (R : RH K ι' h' H') : RH K ι' (unlockS l h₀ h') H' := by
  cases l with
  | none => exact R
  | some n => exact unlock_rh R
theorem noC_od {a : Addr} {u : HO} {ks : List NestedKey} {ds : List D} (o : ORep K ι (upd H a u) a (.dct ks ds)) : NoC u := by
  obtain ⟨kv, vv, ⟨o, e, d, _⟩, _⟩ := o
  rw [upd_same] at e
  cases e
  rcases d with ⟨xs, d, _⟩ | ⟨xs, d, _⟩
  · exact noC_D d
  · exact noC_DM d
theorem od_step {ks : List NestedKey} {ds : List D} (R : RH K ι h H) (x : Ext ι h H ι' h' H') (hg : Dd ∈ ι.g) (o : ORep K ι H Dd (.dct ks ds)) : ORep K ι' H' Dd (.dct ks ds) := by
  obtain ⟨u, hu, _⟩ := R.gs Dd hg
  refine o.pr x.pres ?_
  rw [hu]
  exact x.frame Dd u hu fun ⟨n, q, _⟩ => R.gd Dd hg n q
theorem put_rep {ks : List NestedKey} {ds : List D} {y z : D} {kk : NestedKey} {vy vz : V} {Nx : Hp → Prop} (R : RH K ι h H) (hg : Dd ∈ ι.g) (o : ORep K ι H Dd (.dct ks ds)) (qk : keyS ks y = some kk) (hz : ks.length < sizeLine) (ry : Rep K ι H y vy) (rz : Rep K ι H z vz)
    (k : ∀ u, ORep K ι (upd H Dd u) Dd (.dct (putKs ks kk) (putL ks ds kk z)) → Nx (upd H Dd u)) : rPut TheW.w K Dd vy vz H Nx := by
  obtain ⟨kv, vv, ⟨o0, e0, dk, e5⟩, rk, rv⟩ := o
  refine setk_rep e0 dk e5 rk qk hz ry rv rz fun ob kv' vv' dk' rk' rv' => ?_
  have P := upg_pres (u := XO Dd ob) R hg
  exact k _ ⟨kv', vv', ⟨ob, upd_same, dk', e5⟩, rk'.pr P, rv'.pr P⟩
/-- what is wanted of the dict that is made, kept aside at p -/
def KD (K : PySem.W.Frag) (ι : Io) (h : Hs) (H : Hp) (e : En) (σ : St) (r : Res (List NestedKey × List D)) (Q : VK) : Prop := match r with
  | .ok x h' => ∀ ι' H' p, ι'.g = p :: ι.g → Ext ι h H ⟨ι'.c, ι.g⟩ h' H' → RH K ι' h' H' → RE K ι' e σ H' → ORep K ι' H' p (.dct x.1 x.2) → H p = none → Q (.ref p) H'
  | _ => False
theorem compD_core {it : DenI} {g : CT} {t : DenT} {kx vx : Den} {own : List Nat} {Q : VK} (ho : ∀ i ∈ g.slots, i ∈ own) (R : Rl K ι e h σ H) (k : KD K ι h H e σ (dDcp own it g t kx vx e h) Q) : tDcN TheW.w K (rdI K it) (g.rd K) (rdT K t) (rdE K kx) (rdE K vx) own σ H Q := by
  refine ⟨ι, e, h, R, ?_⟩
  unfold dDcp at k
  cases qi : it e h with
  | err _ _ => rw [qi] at k; exact k
  | bad => rw [qi] at k; exact k
  | ok s h1 =>
  rw [qi] at k
  intro ι1 H1 J x1 R1 wk Dd ob0 hD de0 hsys
  have k : KD K ι h H e σ (if s.items.length ≤ sizeLine then compDR s h1 (compD g t kx vx (wipeE e own) s.items [] [] (lockS s.lk h1)) else .bad) Q := k
  split at k
  rotate_left
  · exact k.elim
  rename_i hz
  obtain ⟨S, hS, sst, sgo, sstop⟩ := wk.ex
  cases qc : compD g t kx vx (wipeE e own) s.items [] [] (lockS s.lk h1) with
  | err _ _ => rw [qc] at k; exact k.elim
  | bad => rw [qc] at k; exact k.elim
  | ok zs hE =>
  rw [qc] at k
  have k : KD K ι h H e σ (.ok zs (unlockS s.lk h1 hE)) Q := k
  have RL := lockS_rh s.lk R1.rh
  let Pv : Nat → Hp → Prop := fun i H' => ∃ ι' h' ks ds, Wx ι1 (lockS s.lk h1) H1 Dd ι' h' H' ∧ RH K ι' h' H' ∧ RE K ι' (wipeE e own) (wipe σ own) H' ∧ S ι' h' H' ∧ ORep K ι' H' Dd (.dct ks ds) ∧ compD g t kx vx (wipeE e own) (s.items.drop i) ks ds h' = .ok zs hE
  have start : Pv 0 (upd H1 Dd (XO Dd ob0)) := by
    refine ⟨ι1.res Dd, lockS s.lk h1, [], [], Wx.start RL hD, res_rh RL hD, (R1.re.pr (res_pres (h := lockS s.lk h1) hD)).wipe own, sst _ _ _ _ _ _ hS (res_pres hD), ⟨[], [], ⟨ob0, upd_same, .inl ⟨[], de0, rfl, rfl, .nil⟩, hsys⟩, .nil, .nil⟩, ?_⟩
    rw [List.drop_zero]; exact qc
  refine ⟨fun i m H' => m = s.items.length - i ∧ i ≤ s.items.length ∧ Pv i H', ⟨s.items.length, by simp, Nat.zero_le _, start⟩, ?_⟩
  rintro i m H2 ⟨rfl, hi, ι2, h2, ks, ds, w, R2, E2, S2, od, eq⟩
  have hg2 : Dd ∈ ι2.g := by rw [w.g]; exact List.mem_cons_self ..
  by_cases hlt : i < s.items.length
  · right
    have qd : s.items[i]? = some s.items[i] := List.getElem?_eq_getElem hlt
    obtain ⟨go, yl⟩ := sgo ι2 h2 H2 i _ S2 R2 qd
    refine ⟨go, Pv (i + 1), fun H' p => ⟨s.items.length - (i + 1), by omega, rfl, by omega, p⟩, fun x H3 yld => ?_⟩
    obtain ⟨x3, R3, rx⟩ := yl x H3 yld
    rw [List.drop_eq_getElem_cons hlt] at eq
    unfold compD at eq
    obtain ⟨e₁, q1, eq⟩ := orBad_ok eq
    obtain ⟨b, h4, qt, eq⟩ := bind_ok eq
    have w3 := w.step hD R2 R3 x3
    refine CT.put_ok (E2.ext x3) rx q1 ho fun σ₁ E3 ew => ⟨by rw [ew, wipe_wipe], ι2, e₁, h2, ⟨R3, E3⟩, ?_⟩
    rw [qt]
    intro ι4 H4 c x4 R4 rb
    cases rb
    have w4 := w3.step hD R3 R4.rh x4
    have E4 : RE K ι4 (wipeE e own) (wipe σ own) H4 := (E2.ext x3).ext x4
    have S4 : S ι4 h4 H4 := sst _ _ _ _ _ _ S2 (x3.trans x4).pres
    have od4 := od_step R3 x4 hg2 (od_step R2 x3 hg2 od)
    have hg4 : Dd ∈ ι4.g := by rw [w4.g]; exact List.mem_cons_self ..
    cases b with
    | false => exact ⟨ι4, h4, ks, ds, w4, R4.rh, E4, S4, od4, eq⟩
    | true =>
      rw [if_pos rfl] at eq ⊢
      obtain ⟨y, h5, qy, eq⟩ := bind_ok eq
      obtain ⟨z, h6, qz, eq⟩ := bind_ok eq
      obtain ⟨kk, qk, eq⟩ := orBad_ok eq
      refine ⟨ι4, e₁, h4, R4, ?_⟩
      rw [qy]
      intro ι5 H5 vy x5 R5 ry
      have w5 := w4.step hD R4.rh R5.rh x5
      refine ⟨ι5, e₁, h5, R5, ?_⟩
      rw [qz]
      intro ι6 H6 vz x6 R6 rz
      have w6 := w5.step hD R5.rh R6.rh x6
      have hg5 : Dd ∈ ι5.g := by rw [w5.g]; exact List.mem_cons_self ..
      have hg6 : Dd ∈ ι6.g := by rw [w6.g]; exact List.mem_cons_self ..
      have od6 := od_step R5.rh x6 hg5 (od_step R4.rh x5 hg4 od4)
      split at eq
      · rename_i hz2
        refine put_rep R6.rh hg6 od6 qk hz2 (ry.ext x6) rz fun u od7 => ?_
        have pu := upg_pres (D₀ := Dd) (u := u) R6.rh hg6
        exact ⟨ι6, h6, _, _, w6.upg hD, upg_rh R6.rh hg6 (noC_od od7), ((E4.ext x5).ext x6).pr pu, sst _ _ _ _ _ _ (sst _ _ _ _ _ _ (sst _ _ _ _ _ _ S4 x5.pres) x6.pres) pu, od7, eq⟩
      · cases eq
  · left
    have hi' : i = s.items.length := by omega
    subst hi'
    refine ⟨sstop _ _ _ S2, ?_⟩
    rw [List.drop_length] at eq
    cases eq
    have hP : H Dd = none := x1.none_of R1.rh hD
    have hgg : ι2.g = Dd :: ι.g := by rw [w.g, x1.g]
    obtain ⟨xe, _⟩ := unlockS_ext R1.rh (unres_rh w.g R2) w.done
    have R3 : RH K ι2 (unlockS s.lk h1 hE) H2 := unlockS_rh R2
    have P : Pres ι1 h1 H1 ι2 (unlockS s.lk h1 hE) H2 := by
      refine ⟨xe.pres.pre, fun a o ha no => ?_, fun n a o ha ho nm => ?_⟩
      · have := xe.pres.fz a o ha no
        refine ⟨this.1, fun z => ?_⟩
        rcases z with z | z
        · exact this.2 (.inl z)
        · rw [w.g] at z
          rcases List.mem_cons.mp z with z | z
          · rw [z, hD] at ha; cases ha
          · exact this.2 (.inr z)
      · have := xe.pres.nm n a o ha ho nm
        exact ⟨this.1, fun m => this.2 m⟩
    have E3 : RE K ι2 e σ H2 := R1.re.pr P
    refine k ι2 H2 Dd hgg ?_ R3 E3 od hP
    have x2 := x1.trans xe
    rw [show (⟨ι2.c, ι.g⟩ : Io) = ⟨ι2.c, ι1.g⟩ by rw [x1.g]]
    exact x2
end
section
variable [TheW] {K : PySem.W.Frag} {ι ι1 ι' : Io} {h h1 h' : Hs} {H H1 H' : Hp} {e : En} {σ : St} {Dd : Addr}
theorem kd_frz {r : Res (List NestedKey × List D)} {Q : VK} (R : Rl K ι e h σ H) (k : Kd K ι h H e σ (r.bind fun p h => .ok (.dct p.1 p.2) h) Q) : KD K ι h H e σ r Q := by
  cases r with
  | err _ _ => exact k
  | bad => exact k
  | ok x h2 =>
    intro ι2 H2 p hg x2 R2 E2 ⟨kv, vv, fd, rk, rv⟩ hp
    have P := unres_pres (h1 := h2) (H1 := H2) hg
    refine k _ _ _ x2 ⟨unres_rh hg R2, E2.pr P⟩ (.dct ⟨fd, fun o => ?_⟩ (rk.pr P) (rv.pr P))
    rcases o with ⟨n, q⟩ | o
    · exact R2.gd p (by rw [hg]; exact List.mem_cons_self ..) n q
    · exact res_no R.rh hp o
theorem kd_cell {r : Res (List NestedKey × List D)} {Q : VK} (R : Rl K ι e h σ H) (k : Kd K ι h H e σ (r.bind fun p h => if D.undAll h.length p.2 = true then .ok (.ref h.length) (h ++ [.live (.dct p.1 p.2)]) else .bad) Q) : KD K ι h H e σ r Q := by
  cases r with
  | err _ _ => exact k
  | bad => exact k
  | ok x h2 =>
    intro ι2 H2 p hg x2 R2 E2 od hp
    have k : Kd K ι h H e σ (if D.undAll h2.length x.2 = true then .ok (.ref h2.length) (h2 ++ [.live (.dct x.1 x.2)]) else .bad) Q := k
    split at k
    · rename_i hu
      have P := nc_pres (p := p) (g := ι.g) R2 hg (.dct x.1 x.2)
      exact k _ _ _ (nc_ext R.rh R2 hg x2 hp _) ⟨nc_rhO R2 hg (res_no R.rh hp) od hu, E2.pr P⟩ (nc_rep R2)
    · exact k.elim
end
end Ev
/-! EvDe: d[k] = [] and a loop that appends to d[k]. -/
namespace Ev
open PySem PySem.Spec L2
variable [TheW]

def nxO {α : Type} (f : Fl) (k : En → Hs → Res α) : Res α := match f with
  | .nx e h => k e h
  | _ => .bad
def runPre : List DenS → En → Hs → Res En
  | [], e, h => .ok e h
  | s :: ss, e, h => nxO (s e h) fun e h => runPre ss e h
def slotIs (e : En) (id m : Nat) : Bool := match e[id]? with
  | some (some (.ref n)) => n == m
  | _ => false
def keyAt (e : En) (ik : Nat) : Option NestedKey := match e[ik]? with
  | some (some d) => keyT d
  | _ => none
def sameK (a : Option NestedKey) (k : NestedKey) : Bool := match a with
  | some b => NestedKey.beq b k
  | none => false
def fillL (g : DenG) (pre : List DenS) (v : Den) (post : DenS) (id ik m : Nat) (kk : NestedKey) : List D → List D → En → Hs → Res (En × List D)
  | [], acc, e, h => .ok (e, acc) h
  | x :: xs, acc, e, h => (g x e h).bind fun e h => (runPre pre e h).bind fun e h => if slotIs e id m = true then if sameK (keyAt e ik) kk = true then (v e h).bind fun y h => if acc.length < sizeLine then nxO (post e h) fun e h => fillL g pre v post id ik m kk xs (acc ++ [y]) e h else .bad else .bad else .bad
def deadAt (h : Hs) (n : Nat) : Bool := match h[n]? with
  | some .dead => true
  | _ => false
/-- behind the loop -/
def fillE (ks : List NestedKey) (ds : List D) (kk : NestedKey) (m : Nat) (l : Option Nat) (h2 : Hs) (r : Res (En × List D)) : Fl := match r with
  | .ok p h3 => if D.undAll m p.2 = true then .nx p.1 ((unlockS l h2 h3).set m (.live (.dct (putKs ks kk) (putL ks ds kk (.lst p.2))))) else .bad
  | _ => .bad
def sFill (id ik : Nat) (it : DenI) (g : DenG) (pre : List DenS) (v : Den) (post : DenS) : DenS := fun e h => match e[id]? with
  | some (some (.ref m)) => match e[ik]? with
    | some (some (.tup ys)) => match h[m]? with
      | some (.live (.dct ks ds)) => match keyD ks (.tup ys) with
        | none => .bad
        | some kk => if deadAt h (m - 1) = true then if 0 < m then if ks.length < sizeLine then
            (it e (lockC m (h.set m (.live (.dct (putKs ks kk) (putL ks ds kk (.ref (m - 1)))))))).to fun s h2 => fillE ks ds kk m s.lk h2 (fillL g pre v post id ik m kk s.items [] e (lockS s.lk h2)) else .bad else .bad else .bad
      | _ => .bad
    | _ => .bad
  | _ => .bad
/-! ### the statements ahead -/
def tPre (K : PySem.W.Frag) : List DenS → TS → TS
  | [], t => t
  | s :: ss, t => tSeq (rdS K s) (tPre K ss t)
inductive PPre (X : Cx) : List Stmt → List DenS → Prop
  | nil : PPre X [] []
  | cons {st : Stmt} {sts : List Stmt} {s : DenS} {ss : List DenS} : PS X st (rdS X.K s) → PPre X sts ss → PPre X (st :: sts) (s :: ss)
theorem pss_pre {X : Cx} {t : TS} {rest : List Stmt} (hr : PSs X rest t) : ∀ {sts : List Stmt} {ss : List DenS}, PPre X sts ss → PSs X (sts ++ rest) (tPre X.K ss t)
  | _, _, .nil => hr
  | _, _, .cons h p => pss_cons h (pss_pre hr p)
theorem pre_core {K : PySem.W.Frag} {t : TS} {Z : Ends} {e2 : En} {h2 : Hs} : ∀ {ss : List DenS} {ι : Io} {e : En} {h : Hs} {σ : St} {H : Hp}, Rl K ι e h σ H → runPre ss e h = .ok e2 h2 → (∀ ι2 σ2 H2, Ext ι h H ι2 h2 H2 → Rl K ι2 e2 h2 σ2 H2 → t Z σ2 H2) → tPre K ss t Z σ H
  | [], ι, e, h, σ, H, R, q, k => by cases q; exact k ι σ H .refl R
  | s :: ss, ι, e, h, σ, H, R, q, k => by
    unfold runPre at q
    refine ⟨ι, e, h, R, ?_⟩
    cases qs : s e h with
    | nx e1 h1 =>
      rw [qs] at q
      exact fun ι1 σ1 H1 x1 R1 => pre_core R1 q fun ι2 σ2 H2 x2 R2 => k ι2 σ2 H2 (x1.trans x2) R2
    | rt _ _ => rw [qs] at q; cases q
    | bk _ _ => rw [qs] at q; cases q
    | ct _ _ => rw [qs] at q; cases q
    | err _ _ => rw [qs] at q; cases q
    | bad => rw [qs] at q; cases q
section
variable {K : PySem.W.Frag} {ι ι1 ι' : Io} {h h1 h' : Hs} {H H1 H' : Hp} {e : En} {σ : St} {p a : Addr} {m : Nat}
theorem Wx.lockC (w : Wx ι h H p ι' h' H') (n : Nat) : Wx ι h H p ι' (lockC n h') H' := by
  refine ⟨w.g, w.pre, w.frame, w.own, fun b z => w.mt b (lockC_mt z), fun k o q => ?_⟩
  rw [lockC_get]
  have := w.lk k o q
  split
  · rw [this]
  · exact this
theorem Wx.lockS (w : Wx ι h H p ι' h' H') (l : Option Nat) : Wx ι h H p ι' (lockS l h') H' := by
  cases l with
  | none => exact w
  | some n => exact w.lockC n
theorem sameK_ok {a : Option NestedKey} {k : NestedKey} (q : sameK a k = true) : a = some k := by
  cases a with
  | none => cases q
  | some b => rw [NestedKey.eq_of_beq b k q]
/-- the cell tells something else of the same object -/
theorem cell_re {o₀ o₁ : O} (R : RH K ι h H) (hm : h[m]? = some (.live o₀) ∨ h[m]? = some (.lock o₀)) (ha : ι.c[m]? = some (some a)) (rl : ORep K ι H a o₁) (b : o₁.und m = true) : RH K ι (h.set m (.live o₁)) H := by
  have hl : m < h.length := by
    rcases hm with q | q
    · exact (List.getElem?_eq_some_iff.mp q).1
    · exact (List.getElem?_eq_some_iff.mp q).1
  refine ⟨by rw [List.length_set]; exact R.len, R.gs, R.gd, fun k z => ?_, fun k u z => ?_, R.inj⟩
  · by_cases y : m = k
    · subst y; rw [List.getElem?_set_self hl] at z; cases z
    · rw [List.getElem?_set_ne y] at z; exact R.dead k z
  · by_cases y : m = k
    · subst y
      rw [List.getElem?_set_self hl] at z
      have eu : u = o₁ := by
        rcases z with z | z
        · cases z; rfl
        · cases z
      subst eu
      exact ⟨a, ha, rl, b⟩
    · rw [List.getElem?_set_ne y] at z; exact R.cell k u z
end
section
variable {X : Cx} {tg it b : Expr} {di : DenI} {g : DenG} {pre : List DenS} {v : Den} {post : DenS} {id ik : Nat}
/-- what stays so in the loop -/
structure Fi (K : PySem.W.Frag) (ι : Io) (h : Hs) (H : Hp) (p a : Addr) (m : Nat) (o : O) (ob : Obj) (ds : List D) (vv : List V) (xs : List (NestedKey × Addr × Value)) (ι2 : Io) (ι' : Io) (h' : Hs) (H' : Hp) (acc : List D) : Prop where
  w : Wx ι h H p ι' h' H'
  pre : ∀ (n : Nat) (x : Option Addr), ι2.c[n]? = some x → ι'.c[n]? = some x ∨ ι'.c[n]? = some none
  lst : ∃ vs, H' p = some (.lst vs) ∧ RepL K ι' H' acc vs
  lk : h'[m]? = some (.lock o)
  ca : ι'.c[m]? = some (some a)
  ha : H' a = some (XO a ob)
  vs : RepL K ι' H' ds vv
  kr : RepL K ι' H' (kds (xs.map (·.1))) (xs.map fun x => V.ref x.2.1)
theorem Fi.step {K : PySem.W.Frag} {ι ι2 ι' ι3 : Io} {h h' h3 : Hs} {H H' H3 : Hp} {p a : Addr} {m : Nat} {o : O} {ob : Obj} {ds acc : List D} {vv : List V} {xs : List (NestedKey × Addr × Value)} (F : Fi K ι h H p a m o ob ds vv xs ι2 ι' h' H' acc) (hp : H p = none) (R : RH K ι' h' H') (R3 : RH K ι3 h3 H3) (x : Ext ι' h' H' ι3 h3 H3) : Fi K ι h H p a m o ob ds vv xs ι2 ι3 h3 H3 acc := by
  have gp : p ∈ ι'.g := by rw [F.w.g]; exact List.mem_cons_self ..
  have np : ¬ Mt ι' h' p := fun ⟨n, q, _⟩ => R.gd p gp n q
  have na : ¬ Mt ι' h' a := fun ⟨n, q, o', q2⟩ => by
    have := R.inj n m a q F.ca
    subst this
    rw [F.lk] at q2; cases q2
  obtain ⟨vs, e1, e2⟩ := F.lst
  exact ⟨F.w.step hp R R3 x, fun n y q => by
    rcases F.pre n y q with q | q
    · exact (x.pre n y q).imp_right fun z => z.1
    · exact .inr ((x.pre n _ q).elim id fun z => z.1), ⟨vs, x.frame p _ e1 np, e2.ext x⟩, x.lk m _ F.lk, x.pres.keep F.ca F.ha na, x.frame a _ F.ha na, F.vs.ext x, F.kr.ext x⟩
theorem Fi.app {K : PySem.W.Frag} {ι ι2 ι' : Io} {h h' : Hs} {H H' : Hp} {p a : Addr} {m : Nat} {o : O} {ob : Obj} {ds acc : List D} {vv vs : List V} {xs : List (NestedKey × Addr × Value)} {y : D} {u : V} (F : Fi K ι h H p a m o ob ds vv xs ι2 ι' h' H' acc) (hp : H p = none) (R : RH K ι' h' H') (e1 : H' p = some (.lst vs)) (e2 : RepL K ι' H' acc vs) (ry : Rep K ι' H' y u) : Fi K ι h H p a m o ob ds vv xs ι2 ι' h' (upd H' p (.lst (vs ++ [u]))) (acc ++ [y]) := by
  have gp : p ∈ ι'.g := by rw [F.w.g]; exact List.mem_cons_self ..
  have P := upg_pres (D₀ := p) (u := .lst (vs ++ [u])) R gp
  have ne : a ≠ p := fun z => R.gd p gp m (by rw [← z]; exact F.ca)
  exact ⟨F.w.upg hp, F.pre, ⟨_, upd_same, (e2.append (.cons ry .nil)).pr P⟩, F.lk, F.ca, by rw [upd_ne ne]; exact F.ha, F.vs.pr P, F.kr.pr P⟩
theorem fill_core {K : PySem.W.Frag} {ι : Io} {h : Hs} {H : Hp} {e : En} {σ : St} {p a : Addr} {m : Nat} {o : O} {ob : Obj} {ds : List D} {vv : List V} {xs : List (NestedKey × Addr × Value)} {kk : NestedKey} {b : Addr} {u0 : Value} {Z : Ends} (hp : H p = none) (hw : TheW.w = w) (hxs : DEnt w ob xs)
    (hkk : atKey xs kk = some (b, u0)) (hu0 : RelV (.ref p) u0) (hs : (a == sysModules) = false)
    {ι2 : Io} {h2 : Hs} {H2 : Hp} (sr : Src) {J : It} (F : Fi K ι h H p a m o ob ds vv xs ι2 ι2 (lockS sr.lk h2) H2 []) (R2 : Rl K ι2 e (lockS sr.lk h2) σ H2) (wk : Wk K ι2 (lockS sr.lk h2) H2 sr.items J)
    {e3 : En} {acc : List D} {h3 : Hs} (eq : fillL g pre v post id ik m kk sr.items [] e (lockS sr.lk h2) = .ok (e3, acc) h3)
    (k : ∀ ι3 σ3 H3, Rl K ι3 e3 h3 σ3 H3 → Fi K ι h H p a m o ob ds vv xs ι2 ι3 h3 H3 acc → Z.nx σ3 H3) :
    ∃ W : Nat → Nat → St → Hp → Prop, (∃ m, W 0 m σ H2) ∧ ∀ i n σ H, W i n σ H → (J.stop i H ∧ Z.nx σ H) ∨ (J.go i H ∧ ∃ N : St → Hp → Prop, (∀ σ' H', N σ' H' → ∃ m', m' < n ∧ W (i + 1) m' σ' H') ∧ ∀ x H', J.yld i H x H' → rdG K g x σ H' fun σ2 H2 =>
      tPre K pre (tSeq (tDrop (tBM K "list" rAppend (tOp (rIxK w K) (tVar id) (tVar ik)) (tCons (rdE K v) tNil))) (rdS K post)) { Z with nx := N, ct := N, bk := Z.nx } σ2 H2) := by
  obtain ⟨S, hS, sst, sgo, sstop⟩ := wk.ex
  refine ⟨fun i n σ' H' => n = sr.items.length - i ∧ i ≤ sr.items.length ∧ ∃ ι' e' h' ac, Rl K ι' e' h' σ' H' ∧ S ι' h' H' ∧ Fi K ι h H p a m o ob ds vv xs ι2 ι' h' H' ac ∧ fillL g pre v post id ik m kk (sr.items.drop i) ac e' h' = .ok (e3, acc) h3,
    ⟨sr.items.length, by simp, Nat.zero_le _, ι2, e, _, [], R2, hS, F, by rw [List.drop_zero]; exact eq⟩, ?_⟩
  rintro i n σ4 H4 ⟨rfl, hi, ι4, e4, h4, ac, R4, S4, F4, eq4⟩
  by_cases hlt : i < sr.items.length
  · right
    have qd : sr.items[i]? = some sr.items[i] := List.getElem?_eq_getElem hlt
    obtain ⟨go, yl⟩ := sgo ι4 h4 H4 i _ S4 R4.rh qd
    refine ⟨go, fun σ' H' => ∃ ι' e' h' ac, Rl K ι' e' h' σ' H' ∧ S ι' h' H' ∧ Fi K ι h H p a m o ob ds vv xs ι2 ι' h' H' ac ∧ fillL g pre v post id ik m kk (sr.items.drop (i + 1)) ac e' h' = .ok (e3, acc) h3, fun σ' H' z => ⟨sr.items.length - (i + 1), by omega, rfl, by omega, z⟩, fun x H5 yld => ?_⟩
    obtain ⟨x5, R5, rx⟩ := yl x H5 yld
    rw [List.drop_eq_getElem_cons hlt] at eq4
    unfold fillL at eq4
    obtain ⟨e6, h6, qg, eq4⟩ := bind_ok eq4
    obtain ⟨e7, h7, qp, eq4⟩ := bind_ok eq4
    refine ⟨ι4, e4, h4, _, ⟨R5, R4.re.ext x5⟩, rx, ?_⟩
    rw [qg]
    intro ι6 σ6 H6 x6 R6
    refine pre_core R6 qp fun ι7 σ7 H7 x7 R7 => ?_
    have F5 := F4.step hp R4.rh R5 x5
    have F6 := F5.step hp R5 R6.rh x6
    have F7 := F6.step hp R6.rh R7.rh x7
    have S7 := sst _ _ _ _ _ _ S4 ((x5.trans x6).trans x7).pres
    split at eq4
    rotate_left
    · cases eq4
    rename_i hsl
    split at eq4
    rotate_left
    · cases eq4
    rename_i hky
    obtain ⟨y, h8, qv, eq4⟩ := bind_ok eq4
    have hky := sameK_ok hky
    -- d[k]
    unfold slotIs at hsl
    split at hsl
    rotate_left
    · cases hsl
    rename_i m' qid
    have em : m' = m := by simpa using hsl
    subst em
    unfold keyAt at hky
    split at hky
    rotate_left
    · cases hky
    rename_i kd qik
    obtain ⟨vd, svd, rvd⟩ := R7.re.get id _ qid
    obtain ⟨vk, svk, rvk⟩ := R7.re.get ik _ qik
    have evd : vd = .ref a := by
      cases rvd with
      | ref z => rw [F7.ca] at z; cases z; rfl
      | dead z => rw [F7.ca] at z; cases z
    subst evd
    obtain ⟨c, rfl, nk, dp⟩ := keyT_nk hky rvk
    obtain ⟨vs7, l1, l2⟩ := F7.lst
    refine ⟨_, svd, _, svk, c, a, kk, xs, (b, u0), .ref p, rfl, rfl, ⟨ob, F7.ha, hxs, hs, nks_all (reps_nk (toKs_kds _) F7.kr)⟩, nk, dp, hkk, hu0, .inl ⟨rfl, vs7, .of l1⟩, ι7, e7, h7, R7, ?_⟩
    rw [qv]
    intro ι8 H8 u8 x8 R8 ry
    have F8 := F7.step hp R7.rh R8.rh x8
    obtain ⟨vs8, l3, l4⟩ := F8.lst
    split at eq4
    rotate_left
    · cases eq4
    rename_i hz
    refine ⟨p, vs8, u8, rfl, rfl, l3, by rw [← l4.length]; exact hz, ?_⟩
    have F9 := F8.app hp R8.rh l3 l4 ry
    have gp : p ∈ ι8.g := by rw [F8.w.g]; exact List.mem_cons_self ..
    have P9 := upg_pres (D₀ := p) (u := .lst (vs8 ++ [u8])) R8.rh gp
    have R9 : Rl K ι8 e7 h8 σ7 (upd H8 p (.lst (vs8 ++ [u8]))) := ⟨upg_rh R8.rh gp, R8.re.pr P9⟩
    have S9 := sst _ _ _ _ _ _ (sst _ _ _ _ _ _ S7 x8.pres) P9
    refine ⟨ι8, e7, h8, R9, ?_⟩
    cases qs : post e7 h8 with
    | nx e10 h10 =>
      rw [qs] at eq4
      exact fun ι10 σ10 H10 x10 R10 => ⟨ι10, e10, h10, _, R10, sst _ _ _ _ _ _ S9 x10.pres, F9.step hp R9.rh R10.rh x10, eq4⟩
    | rt _ _ => rw [qs] at eq4; cases eq4
    | bk _ _ => rw [qs] at eq4; cases eq4
    | ct _ _ => rw [qs] at eq4; cases eq4
    | err _ _ => rw [qs] at eq4; cases eq4
    | bad => rw [qs] at eq4; cases eq4
  · left
    have hi' : i = sr.items.length := by omega
    subst hi'
    refine ⟨sstop _ _ _ S4, ?_⟩
    rw [List.drop_length] at eq4
    cases eq4
    exact k ι4 σ4 H4 R4 F4
theorem atKey_stored {k : NestedKey} {b : Addr} {u : Value} : ∀ {xs : List (NestedKey × Addr × Value)}, (xs.map (·.1)).Nodup → ∃ b', atKey (storedH xs k b u) k = some (b', u)
  | [], _ => ⟨b, by show atKey [(k, b, u)] k = _; rw [atKey_cons, if_pos rfl]⟩
  | x :: xs, nd => by
    rw [stored_cons nd]
    by_cases c : x.1 = k
    · rw [if_pos c]; exact ⟨x.2.1, by rw [atKey_cons, if_pos c]⟩
    · rw [if_neg c]
      obtain ⟨b', e⟩ := atKey_stored (k := k) (b := b) (u := u) (List.nodup_cons.mp nd).2
      exact ⟨b', by rw [atKey_cons, if_neg c]; exact e⟩
theorem unlockS_keep {l : Option Nat} {h2 h3 : Hs} {m : Nat} {o : O} (q2 : h2[m]? = some (.lock o)) (q3 : h3[m]? = some (.lock o)) : (unlockS l h2 h3)[m]? = some (.lock o) := by
  cases l with
  | none => exact q3
  | some n =>
    show (unlockC n h2 h3)[m]? = _
    unfold unlockC
    split
    · rename_i o1 q
      have nm : n ≠ m := fun z => by subst z; rw [q2] at q; cases q
      split
      · rw [List.getElem?_set_ne nm]; exact q3
      · exact q3
    · exact q3
theorem lockS_keep {l : Option Nat} {h2 : Hs} {m : Nat} {o : O} (q2 : h2[m]? = some (.lock o)) : (lockS l h2)[m]? = some (.lock o) := by
  cases l with
  | none => exact q2
  | some n =>
    show (lockC n h2)[m]? = _
    rw [lockC_get]
    split
    · rw [q2]
    · exact q2
theorem unlockS_live {l : Option Nat} {h2 h3 : Hs} {n : Nat} {o : O} (q : (unlockS l h2 h3)[n]? = some (.live o)) : h3[n]? = some (.live o) ∨ ∃ o', h2[n]? = some (.live o') := by
  cases l with
  | none => exact .inl q
  | some j =>
    change (unlockC j h2 h3)[n]? = _ at q
    unfold unlockC at q
    split at q
    · rename_i o1 z
      split at q
      · by_cases c : j = n
        · subst c; exact .inr ⟨_, z⟩
        · rw [List.getElem?_set_ne c] at q; exact .inl q
      · exact .inl q
    · exact .inl q
theorem p_fill {xd xk : Str} {preS postS rest : List Stmt} {sRest : DenS} {p1 p2 p3 p4 p5 q1 q2 q3 q4 apos cpos pos : Pos} (hu : X.A.units + 65 < cLine ∧ TheW.w = X.w) (own : PassesOwn (model X.prog X.w) X.A X.env X.xe) (hc : X.calm = true)
    (hNd : X.N[id]? = some xd) (hvd : Vis X.env.scope xd) (d1 : (xd == ("__debug__" : Str)) = false) (d2 : (xd == ("__classdict__" : Str)) = false) (hNk : X.N[ik]? = some xk) (hvk : Vis X.env.scope xk) (k1 : (xk == ("__debug__" : Str)) = false) (k2 : (xk == ("__classdict__" : Str)) = false)
    (hi : PI X tg it (rdI X.K di)) (hs : ∀ x, foldedSetIterable it X.env x = pure x) (hg : PG X tg (rdG X.K g)) (hpre : PPre X preS pre) (hv : PE X b (rdE X.K v)) (pb : plain b = true) (hpost : PSs X postS (rdS X.K post)) (hl : (apos.endLine == cpos.line) = true) (hrest : PSs X rest (rdS X.K sRest)) :
    PSs X (.Assign [.Subscript (.Name xd p1) (.Name xk p2) p3] (.List [] p4) p5 :: .For tg it (preS ++ .Expr (.Call (.Attribute (.Subscript (.Name xd q1) (.Name xk q2) q3) "append" apos) [b] [] cpos) q4 :: postS) [] pos :: rest) (rdS X.K (sSeq (sFill id ik di g pre v post) sRest)) := by
  obtain ⟨hu, hw⟩ := hu
  have vd : ∀ {p : Pos}, PE X (.Name xd p) (tVar id) := pe_var hNd hvd d1 d2
  have vk : ∀ {p : Pos}, PE X (.Name xk p) (tVar ik) := pe_var hNk hvk k1 k2
  have app : PE X (.Call (.Attribute (.Subscript (.Name xd q1) (.Name xk q2) q3) "append" apos) [b] [] cpos) (tBM X.K "list" rAppend (tOp (rIxK X.w X.K) (tVar id) (tVar ik)) (tCons (rdE X.K v) tNil)) :=
    pe_bm PySem.F.plainAttrs_list PySem.F.slot_list_append PySem.F.type_list_append mt_append (pe_ix (ix_dk hu) vd vk (fun _ _ => rfl)) (pa_cons hv pa_nil (star_of pb)) (abase rfl) (by rw [star_of pb]; rfl) hl (star_of pb) rfl
  have bodyR := pss_pre (pss_cons (ps_expr (pos := q4) app) hpost) hpre
  have S1 : PS X (.Assign [.Subscript (.Name xd p1) (.Name xk p2) p3] (.List [] p4) p5) (tAsg (tLst tNil) (gSub (tVar id) (tVar ik) (rSetK X.w X.K))) := ps_asg (pe_lst pa_nil) (pg_sub vd vk (set_dk hu))
  refine (pss_cons S1 (pss_cons (ps_for own hc hi hg bodyR hs) hrest)).wkn fun Z σ H ⟨ι, e, h, R, k⟩ => ?_
  refine ⟨Nat.zero_le _, fun p hp => ?_⟩
  unfold sSeq sFill at k
  cases qd : e[id]? with
  | none => rw [qd] at k; exact k.elim
  | some od =>
  rw [qd] at k
  cases od with
  | none => exact k.elim
  | some dd =>
  cases dd <;> try exact k.elim
  rename_i m
  dsimp only at k
  cases qk : e[ik]? with
  | none => rw [qk] at k; exact k.elim
  | some ok =>
  rw [qk] at k
  cases ok with
  | none => exact k.elim
  | some kd =>
  cases kd <;> try exact k.elim
  rename_i ys
  dsimp only at k
  cases qm : h[m]? with
  | none => rw [qm] at k; exact k.elim
  | some cm =>
  rw [qm] at k
  cases cm with
  | dead => exact k.elim
  | lock _ => exact k.elim
  | live oc =>
  cases oc with
  | lst _ => exact k.elim
  | ins _ _ _ => exact k.elim
  | tbl _ _ => exact k.elim
  | dct ks ds =>
  dsimp only at k
  cases qkd : keyD ks (.tup ys) with
  | none => rw [qkd] at k; exact k.elim
  | some kk =>
  rw [qkd] at k
  dsimp only at k
  by_cases hdead : deadAt h (m - 1) = true
  rotate_left
  · rw [if_neg hdead] at k; exact k.elim
  rw [if_pos hdead] at k
  by_cases hm0 : 0 < m
  rotate_left
  · rw [if_neg hm0] at k; exact k.elim
  rw [if_pos hm0] at k
  by_cases hsz : ks.length < sizeLine
  rotate_left
  · rw [if_neg hsz] at k; exact k.elim
  rw [if_pos hsz] at k
  obtain ⟨vd0, svd, rvd⟩ := R.re.get id _ qd
  obtain ⟨vk0, svk, rvk⟩ := R.re.get ik _ qk
  obtain ⟨a, qa, ⟨kv, vv, ⟨o0, e0, dk, e5⟩, rk, rv⟩, un⟩ := R.rh.cell m _ (.inl qm)
  have evd : vd0 = .ref a := by
    cases rvd with
    | ref z => rw [qa] at z; cases z; rfl
    | dead z => rw [qa] at z; cases z
  subst evd
  obtain ⟨qk2, hT⟩ := keyD_ok qkd
  obtain ⟨xs, e1, e2, e3, e4⟩ := dtu_of dk hT
  subst e2 e3
  have nd := e1.2.2.1
  have R0 : RH X.K (ι.res p) h (upd H p (.lst [])) := res_rh R.rh hp
  have P0 := res_pres (ι := ι) (h := h) (u := .lst []) hp
  have W0 : Wx ι h H p (ι.res p) h (upd H p (.lst [])) := Wx.start R.rh hp
  have nap : a ≠ p := ne_of_none e0 hp
  have e0' : (upd H p (.lst [])) a = some (XO a o0) := by rw [upd_ne nap]; exact e0
  have rk0 := rk.pr P0
  have rv0 := rv.pr P0
  have rvk0 := rvk.pr P0
  obtain ⟨b0, rfl, nk, dp⟩ := keyT_nk qk2 rvk0
  obtain ⟨ey, _, _⟩ := keyT_ok qk2
  have dz : (ι.res p).c[m - 1]? = some none := by
    refine R.rh.dead (m - 1) ?_
    unfold deadAt at hdead
    split at hdead
    · assumption
    · cases hdead
  refine ⟨_, svd, _, svk, b0, a, kk, xs, rfl, rfl, ⟨o0, e0', by rw [← hw]; exact e1, e5, nks_all (reps_nk (toKs_kds _) rk0)⟩, nk, dp, by rw [List.length_map] at hsz; exact hsz, fun u' ob ru de => ?_⟩
  have se := stored_ks (b := b0) (k := kk) (u := u') nd
  obtain ⟨o1, eo1⟩ : ∃ o1, o1 = O.dct (putKs (xs.map (·.1)) kk) (putL (xs.map (·.1)) ds kk (.ref (m - 1))) := ⟨_, rfl⟩
  obtain ⟨h1, eh1⟩ : ∃ h1, h1 = h.set m (.live o1) := ⟨_, rfl⟩
  rw [← eo1, ← eh1] at k
  have x1 : Ext (ι.res p) h (upd H p (.lst [])) (ι.res p) h1 (upd (upd H p (.lst [])) a (XO a ob)) := by rw [eh1]; exact cell_extO R0 qm qa
  have kr1 : RepL X.K (ι.res p) (upd (upd H p (.lst [])) a (XO a ob)) (kds ((storedH xs kk b0 u').map (·.1))) ((storedH xs kk b0 u').map fun x => V.ref x.2.1) := by
    rw [se.1]; exact (stored_kv (by rw [← ey]; exact rvk0) nd rk0).ext x1
  have vals1 : Vals (putL (xs.map (·.1)) vv kk (.ref p)) ((storedH xs kk b0 u').map (·.2.2)) := by rw [se.2]; exact putL_rel ru e4
  have R1 : RH X.K (ι.res p) h1 (upd (upd H p (.lst [])) a (XO a ob)) := by
    rw [eh1]
    refine cell_rhO R0 qm qa ?_ ?_
    · rw [eo1]
      refine ⟨(storedH xs kk b0 u').map fun x => V.ref x.2.1, putL (xs.map (·.1)) vv kk (.ref p), ⟨ob, upd_same, .inl ⟨storedH xs kk b0 u', by rw [hw]; exact de, se.1.symm, rfl, vals1⟩, e5⟩, by rw [← se.1]; exact kr1, (putL_rep (.dead dz) rv0).ext x1⟩
    · rw [eo1]
      exact undAll_putL (by show Nat.blt (m - 1) m = true; exact Nat.blt_eq.mpr (by omega)) un
  have E1 : RE X.K (ι.res p) e σ (upd (upd H p (.lst [])) a (XO a ob)) := (R.re.pr P0).ext x1
  have hm1 : h1[m]? = some (.live o1) := by rw [eh1, List.getElem?_set_self (List.getElem?_eq_some_iff.mp qm).1]
  have hmL : (lockC m h1)[m]? = some (.lock o1) := by rw [lockC_get, if_pos rfl, hm1]
  have R1L := lock_rh m R1
  have W1 := (W0.step hp R0 R1 x1).lockC m
  refine ⟨ι.res p, e, lockC m h1, ⟨R1L, E1⟩, ?_⟩
  cases qi : di e (lockC m h1) with
  | err _ _ => rw [qi] at k; exact k.elim
  | bad => rw [qi] at k; exact k.elim
  | ok sr h2 =>
  rw [qi] at k
  intro ι2 H2 J x2 R2 wk
  change KS X.K ι h H (match fillE (xs.map (·.1)) ds kk m sr.lk h2 (fillL g pre v post id ik m kk sr.items [] e (lockS sr.lk h2)) with | .nx e h => sRest e h | f => f) Z at k
  cases qf : fillL g pre v post id ik m kk sr.items [] e (lockS sr.lk h2) with
  | err _ _ => rw [qf] at k; exact k.elim
  | bad => rw [qf] at k; exact k.elim
  | ok ea h3 =>
  obtain ⟨e3, acc⟩ := ea
  rw [qf] at k
  unfold fillE at k
  dsimp only at k
  by_cases hua : D.undAll m acc = true
  rotate_left
  · rw [if_neg hua] at k; exact k.elim
  rw [if_pos hua] at k
  dsimp only at k
  have h2m := x2.lk m o1 hmL
  have nmp : ¬ Mt (ι.res p) (lockC m h1) p := fun ⟨n, q, _⟩ => R1L.gd p (List.mem_cons_self ..) n q
  have nma : ¬ Mt (ι.res p) (lockC m h1) a := fun ⟨n, q, o', q2⟩ => by
    have := R1L.inj n m a q qa
    subst this
    rw [hmL] at q2; cases q2
  have F : Fi X.K ι h H p a m o1 ob ds vv (storedH xs kk b0 u') ι2 ι2 (lockS sr.lk h2) H2 [] :=
    ⟨(W1.step hp R1L R2.rh x2).lockS sr.lk, fun _ _ q => .inl q, ⟨[], x2.frame p _ (by rw [upd_ne (Ne.symm nap)]; exact upd_same) nmp, .nil⟩, lockS_keep h2m, x2.pres.keep qa upd_same nma, x2.frame a _ upd_same nma, (rv0.ext x1).ext x2, kr1.ext x2⟩
  obtain ⟨b1, hkk⟩ := atKey_stored (k := kk) (b := b0) (u := u') nd
  refine fill_core (w := X.w) hp hw de hkk ru e5 sr F ⟨lockS_rh sr.lk R2.rh, R2.re⟩ wk qf fun ι3 σ3 H3 R3 F3 => ?_
  -- behind the loop
  have W2 := W1.step hp R1L R2.rh x2
  obtain ⟨vs3, l1, l2⟩ := F3.lst
  have g3 := F3.w.g
  have R3u : RH X.K ι3 (unlockS sr.lk h2 h3) H3 := unlockS_rh R3.rh
  have P4 := unres_pres (ι1 := ι3) (ι := ι) (D₀ := p) (h1 := unlockS sr.lk h2 h3) (H1 := H3) g3
  have np : ¬ Own ⟨ι3.c, ι.g⟩ p := fun z => by
    rcases z with ⟨n, q⟩ | z
    · exact R3.rh.gd p (by rw [g3]; exact List.mem_cons_self ..) n q
    · exact res_no R.rh hp z
  have hmF : (unlockS sr.lk h2 h3)[m]? = some (.lock o1) := unlockS_keep h2m F3.lk
  have hlF : m < (unlockS sr.lk h2 h3).length := (List.getElem?_eq_some_iff.mp hmF).1
  have RF : RH X.K ⟨ι3.c, ι.g⟩ ((unlockS sr.lk h2 h3).set m (.live (.dct (putKs (xs.map (·.1)) kk) (putL (xs.map (·.1)) ds kk (.lst acc))))) H3 := by
    refine cell_re (unres_rh g3 R3u) (.inr hmF) F3.ca ?_ (undAll_putL (show (D.lst acc).und m = true from hua) un)
    refine ⟨(storedH xs kk b0 u').map fun x => V.ref x.2.1, putL (xs.map (·.1)) vv kk (.ref p), ⟨ob, F3.ha, .inl ⟨storedH xs kk b0 u', by rw [hw]; exact de, se.1.symm, rfl, vals1⟩, e5⟩, by rw [← se.1]; exact F3.kr.pr P4, putL_rep (.lst ⟨l1, np⟩ (l2.pr P4)) (F3.vs.pr P4)⟩
  have xF : Ext ι h H ⟨ι3.c, ι.g⟩ ((unlockS sr.lk h2 h3).set m (.live (.dct (putKs (xs.map (·.1)) kk) (putL (xs.map (·.1)) ds kk (.lst acc))))) H3 := by
    refine ⟨F3.w.done.pre, F3.w.frame, fun c z => ?_, fun c z => ?_, fun n u q => ?_, rfl⟩
    · rcases z with ⟨n, q⟩ | z
      · rcases F3.w.own n c q with y | y
        · exact .inl (.inl y)
        · exact .inr y
      · exact .inl (.inr z)
    · obtain ⟨n, q, u, q2⟩ := z
      by_cases c1 : m = n
      · subst c1
        have q : ι3.c[m]? = some (some c) := q
        rw [F3.ca] at q; cases q
        exact .inl ⟨m, qa, _, qm⟩
      · rw [List.getElem?_set_ne c1] at q2
        rcases unlockS_live q2 with y | ⟨o', y⟩
        · exact F3.w.mt c ⟨n, q, u, y⟩
        · obtain ⟨a', qa', _⟩ := R2.rh.cell n o' (.inl y)
          have q : ι3.c[n]? = some (some c) := q
          rcases F3.pre n _ qa' with this | this
          rotate_left
          · rw [this] at q; cases q
          rw [this] at q; cases q
          exact W2.mt _ ⟨n, qa', o', y⟩
    · have c1 : m ≠ n := fun z => by subst z; rw [qm] at q; cases q
      rw [List.getElem?_set_ne c1]
      exact unlockS_keep (W2.lk n u q) (F3.w.lk n u q)
  exact ⟨⟨ι3.c, ι.g⟩, e3, _, ⟨RF, R3.re.pr P4⟩, KS.after k xF⟩
end
/-! ### a new dict whose lists are to be filled: a cell that is let go stands ahead of it -/
def dDcG : Den := fun e h => .ok (.ref (h.length + 1)) (h ++ [.dead] ++ [.live (.dct [] [])])
section
variable {K : PySem.W.Frag} {ι : Io} {h : Hs} {H : Hp} {e : En} {σ : St}
theorem dead_rh (R : RH K ι h H) : RH K ⟨ι.c ++ [none], ι.g⟩ (h ++ [.dead]) H ∧ Ext ι h H ⟨ι.c ++ [none], ι.g⟩ (h ++ [.dead]) H := by
  have x : Ext ι h H ⟨ι.c ++ [none], ι.g⟩ (h ++ [.dead]) H := by
    refine ⟨fun n y q => ?_, fun _ _ q _ => q, fun b z => ?_, fun b z => ?_, fun n u q => ?_, rfl⟩
    · refine .inl ?_
      show (ι.c ++ [none])[n]? = _
      rw [get_snoc, if_neg (fun z => by rw [z, List.getElem?_eq_none (Nat.le_refl _)] at q; cases q)]
      exact q
    · rcases z with ⟨n, z⟩ | z
      · change (ι.c ++ [none])[n]? = _ at z
        rw [get_snoc] at z
        split at z
        · cases z
        · exact .inl (.inl ⟨n, z⟩)
      · exact .inl (.inr z)
    · obtain ⟨n, z, o, q⟩ := z
      change (ι.c ++ [none])[n]? = _ at z
      rw [get_snoc] at z
      split at z
      · cases z
      · rename_i hn
        rw [get_snoc, if_neg (by rw [← R.len]; exact hn)] at q
        exact .inl ⟨n, z, o, q⟩
    · rw [get_snoc, if_neg (fun z => by rw [z, List.getElem?_eq_none (Nat.le_refl _)] at q; cases q)]
      exact q
  refine ⟨⟨?_, R.gs, fun b m n q => ?_, fun n q => ?_, fun n o q => ?_, fun n m b q1 q2 => ?_⟩, x⟩
  · show (ι.c ++ [none]).length = _
    rw [List.length_append, List.length_append, R.len]; rfl
  · change (ι.c ++ [none])[n]? = _ at q
    rw [get_snoc] at q
    split at q
    · cases q
    · exact R.gd b m n q
  · show (ι.c ++ [none])[n]? = _
    rw [get_snoc] at q ⊢
    by_cases c : n = h.length
    · rw [if_pos (by rw [R.len]; exact c)]
    · rw [if_neg c] at q
      rw [if_neg (by rw [R.len]; exact c)]
      exact R.dead n q
  · rw [get_snoc] at q
    split at q
    · rcases q with q | q <;> cases q
    · obtain ⟨a, qa, w, b⟩ := R.cell n o q
      exact ⟨a, by
        show (ι.c ++ [none])[n]? = _
        rw [get_snoc, if_neg (fun z => by rw [z, List.getElem?_eq_none (Nat.le_refl _)] at qa; cases qa)]
        exact qa, w.pr x.pres rfl, b⟩
  · change (ι.c ++ [none])[n]? = _ at q1
    change (ι.c ++ [none])[m]? = _ at q2
    rw [get_snoc] at q1 q2
    split at q1
    · cases q1
    · split at q2
      · cases q2
      · exact R.inj n m b q1 q2
theorem s_dcG {X : Cx} {pos : Pos} (hw : TheW.w = X.w) : PE X (.Dict [] [] pos) (rdE X.K dDcG) := by
  refine pe_dnewN.wkn fun σ H Q ⟨ι, e, h, R, k⟩ => ?_
  intro p ob hp de hs
  obtain ⟨Rd, xd⟩ := dead_rh R.rh
  have R2 : RH X.K (Io.res ⟨ι.c ++ [none], ι.g⟩ p) (h ++ [.dead]) (upd H p (XO p ob)) := res_rh Rd hp
  have P := nc_pres (p := p) (g := ι.g) R2 rfl (.dct [] [])
  have e1 : (h ++ [Cl.dead]).length = h.length + 1 := by rw [List.length_append]; rfl
  have rp := nc_rep (p := p) (g := ι.g) R2
  rw [e1] at rp
  exact k _ _ _ (xd.trans (nc_ext Rd R2 rfl (Wx.start (u := XO p ob) Rd hp).done hp _)) ⟨nc_rhO R2 rfl (res_no Rd hp) ⟨[], [], ⟨ob, upd_same, .inl ⟨[], by rw [hw]; exact de, rfl, rfl, .nil⟩, hs⟩, .nil, .nil⟩ rfl, ((R.re.ext xd).pr (res_pres (h := h ++ [.dead]) hp)).pr P⟩ rp
end
/-! ### a new cell as a value -/
def dNew (d : DenA) : Den := fun e h => (d e h).bind fun xs h => if D.undAll h.length xs = true then .ok (.ref h.length) (h ++ [.live (.lst xs)]) else .bad
section
variable {X : Cx}
theorem s_new {a : Expr} {da : DenA} (ha : PE X a (rdN X.K da)) : PE X a (rdE X.K (dNew da)) := by
  refine ha.wkn fun σ H Q ⟨ι, e, h, R, k⟩ => ⟨ι, e, h, R, ?_⟩
  unfold dNew at k
  cases q : da e h with
  | err _ _ => rw [q] at k; exact k
  | bad => rw [q] at k; exact k
  | ok xs h1 =>
  rw [q] at k
  intro ι' H' p vs hg x R' E' hp r hP
  have k : Kd X.K ι h H e σ (if D.undAll h1.length xs = true then .ok (.ref h1.length) (h1 ++ [.live (.lst xs)]) else .bad) Q := k
  split at k
  · rename_i hu
    exact k _ H' _ (nc_ext R.rh R' hg x hP _) ⟨nc_rh R' hg (res_no R.rh hP) hp r hu, E'.pr (nc_pres R' hg (.lst xs))⟩ (nc_rep R')
  · exact k.elim
end
/-! ### a def that a name holds, called -/
def dCallV (tb : List (Str × Nat × (List D → Hs → Res D))) (f : Den) (a : DenA) : Den := fun e h => (f e h).bind fun x h => match x with
  | .fnv nm => (match tb.lookup nm with
    | some q => dCall q.2 q.1 a e h
    | none => .bad)
  | _ => .bad
/-- the defs that names may hold -/
structure FvOk (X : Cx) (tb : List (Str × Nat × (List D → Hs → Res D))) : Prop where
  ex : ∀ x n r, (x, n, r) ∈ tb → ∃ fd ps k, PySem.W.keepIn X.K (.ref (gaOf X.K x)) = true ∧ GFn X.prog X.w X.K X.mg X.base k (gaOf X.K x) fd ps (spR X.K r n) ∧ Room k X.A ∧ Binds X.K fd ps []
theorem lookup_mem' {α : Type} {x : Str} {a : α} : ∀ {l : List (Str × α)}, l.lookup x = some a → (x, a) ∈ l
  | [], h => by cases h
  | (y, b) :: l, h => by
    rw [List.lookup_cons] at h
    split at h
    · rename_i e
      cases h
      rw [eq_of_beq e]
      exact List.mem_cons_self ..
    · exact List.mem_cons_of_mem _ (lookup_mem' h)
theorem s_callV {X : Cx} {tb : List (Str × Nat × (List D → Hs → Res D))} {i : Nat} {x : Str} {p pos : Pos} {a : Expr} {es : List Expr} {da : DenA} (V : FvOk X tb) (hgd : X.A.guards = some []) (hN : X.N[i]? = some x) (hv : Vis X.env.scope x) (hd : (x == ("__debug__" : Str)) = false) (hcd : (x == ("__classdict__" : Str)) = false)
    (ha : PA X (a :: es) (rdA X.K da)) (pl : (a :: es).all plain = true) : PE X (.Call (.Name x p) (a :: es) [] pos) (rdE X.K (dCallV tb (dVar i) da)) := by
  rw [List.all_cons, Bool.and_eq_true] at pl
  constructor
  intro pins s σ H Q I ⟨ι, e, h, R, k⟩
  unfold dCallV dVar at k
  cases q : e[i]? with
  | none => rw [q] at k; exact k.elim
  | some o =>
  rw [q] at k
  cases o with
  | none => exact k.elim
  | some d =>
  cases d <;> try exact k.elim
  rename_i nm
  change Kd X.K ι h H e σ (match tb.lookup nm with | some q => dCall q.2 q.1 da e h | none => .bad) Q at k
  cases q1 : tb.lookup nm with
  | none => rw [q1] at k; exact k.elim
  | some t =>
  rw [q1] at k
  obtain ⟨n, r⟩ := t
  obtain ⟨fd, ps, kk, hk, F, hr, hb⟩ := V.ex nm n r (lookup_mem' q1)
  obtain ⟨v, sv, rv⟩ := R.re.get i _ q
  cases rv
  refine wpAny_Call_Name_kw (thn ((pe_var (pos := p) hN hv hd hcd).run pins s σ H (fun v H1 => v = .ref (gaOf X.K nm) ∧ H1 = H) I ⟨_, sv, rfl, rfl⟩) fun u s0 ⟨v0, H0, I0, r0, q0⟩ => ?_)
  obtain ⟨rfl, rfl⟩ := q0
  cases r0
  refine PySem.W.callWith_K (h₀ := X.base) I.ok.mod.kin hk (thn (ha.run pos pins s0 σ _ _ I0 (call_rd (ρ := r) (n := n) ⟨ι, e, h, R, k⟩)) ?_) (star_of pl.1) (star_all pl.2)
  rintro us s1 ⟨vs, H1, I1, rr, q2⟩
  have hl : (us ++ []).length = ps.length := by rw [List.append_nil, ← rr.length]; exact F.len _ _ _ _ q2
  have bt := hb s1 us I1.kIn hl
  rw [List.append_nil] at bt
  exact ⟨I1.kIn, runG F hr hgd I1 bt rr q2⟩
end Ev
/-! EvLb: the text's names. -/
namespace Ev
open PySem PySem.Spec L2
variable [TheW]

/-! ### the table of a text's names -/
structure Tab where
  N : List Str
  fn : List (Str × Nat × Nat)
  kw : List (Str × List Str × Nat × List Nat)
  cn : List (Str × D)
  bl : List Str
  mt : List Str
  keep : Bool
  /-- e.f: classes of which it is an attribute; a property -/
  at_ : List (Str × List Str × List (Str × Nat)) := []
  /-- o.m(..): by classes -/
  me : List (Str × List (Str × Nat × Nat)) := []
  /-- C(..): how many ahead of a star, the def, whether there is a star -/
  mkr : List (Str × Nat × Nat × Bool) := []
  /-- C.m(..) -/
  cm : List (Str × Str × Nat × Nat) := []
  /-- isinstance(x, C): the classes that are known -/
  io : List (Str × List Str) := []
  /-- names that hold dicts, for len and list -/
  ld : List Str := []
  /-- names that hold dicts whose lists are filled -/
  gd : List Str := []
  /-- the defs that names may hold -/
  fv : List (Str × Nat × Nat) := []
  /-- o.m(k = v, ..): names, their order, by classes -/
  mek : List (Str × List Str × List Nat × List (Str × Nat × Nat)) := []
  /-- C(k = v, ..) -/
  mkk : List (Str × List Str × List Nat × Nat × Nat) := []
  /-- C.m(k = v, ..) -/
  cmk : List (Str × Str × List Str × List Nat × Nat × Nat) := []
  /-- special methods (__str__), by classes -/
  sp : List (Str × List (Str × Nat × Nat)) := []
  /-- calls that are told otherwise, in the def's own scope -/
  hs : Scope → Bool := fun _ => false
  hk : Scope → Str → List Expr → Option Den := fun _ _ _ => none
abbrev Ro := Nat → List D → Hs → Res D
def arB (st : Bool) (n : Nat) (ρ : List D → Hs → Res D) : List D → Hs → Res D := if st = true then arV n ρ else ar n ρ
def atR (ρ : Ro) (pr : List (Str × Nat)) : List (Str × (List D → Hs → Res D)) := pr.map fun q => (q.1, ρ q.2)
def meR (ρ : Ro) (tb : List (Str × Nat × Nat)) : List (Str × Nat × (List D → Hs → Res D)) := tb.map fun q => (q.1, q.2.1, ρ q.2.2)
def fvR (ρ : Ro) (tb : List (Str × Nat × Nat)) : List (Str × Nat × (List D → Hs → Res D)) := tb.map fun q => (q.1, q.2.1, ρ q.2.2)
structure Ct (X : Cx) (T : Tab) (ρ : Ro) : Prop where
  N : X.N = T.N
  nd : X.N.Nodup
  calm : X.calm = true
  own : PassesOwn (model X.prog X.w) X.A X.env X.xe
  gd : X.A.guards = some []
  un : X.A.units + 66 < cLine ∧ TheW.w = X.w
  kd : X.env.scope.kind = .function
  bl : ∀ x ∈ T.bl, X.mg x = none
  fn : ∀ x i n, T.fn.lookup x = some (i, n) → ∃ f fd ps k, X.mg x = some (.ref f) ∧ PySem.W.keepIn X.K (.ref f) = true ∧ GFn X.prog X.w X.K X.mg X.base k f fd ps (spR X.K (ρ i) n) ∧ Room k X.A ∧ Binds X.K fd ps []
  kw : ∀ x ks i pm, (x, ks, i, pm) ∈ T.kw → ∃ f fd ps k, X.mg x = some (.ref f) ∧ PySem.W.keepIn X.K (.ref f) = true ∧ GFn X.prog X.w X.K X.mg X.base k f fd ps (spR X.K (ρ i) pm.length) ∧ Room k X.A ∧
    ∀ (s : Shared) (us : List Value), X.K.In s.heap → us.length = ks.length → BindsTo s fd ⟨[], ks.zip us⟩ (ps.zip (permL pm us))
  cn : ∀ x d, T.cn.lookup x = some d → ∃ u v, X.mg x = some u ∧ RelV v u ∧ ∀ ι H, Rep X.K ι H d v
  at_ : ∀ f fl pr, T.at_.lookup f = some (fl, pr) → AttOk X f fl (atR ρ pr)
  me : ∀ m tb, T.me.lookup m = some tb → MetOk X m (meR ρ tb)
  mkr : ∀ c n i st, T.mkr.lookup c = some (n, i, st) → MkOk X c (arB st n (ρ i))
  cm : ∀ c m n i, (c, m, n, i) ∈ T.cm → CmOk X c m n (ρ i)
  io : ∀ c cs, T.io.lookup c = some cs → IsOk X cs c
  fv : FvOk X (fvR ρ T.fv)
  hk : T.hs X.env.scope = true → ∀ f args d, T.hk X.env.scope f args = some d → ∀ p pos : Pos, PE X (.Call (.Name f p) args [] pos) (rdE X.K d)
  mek : ∀ m kn pm tb, (m, kn, pm, tb) ∈ T.mek → MetKOk X m kn pm (meR ρ tb)
  mkk : ∀ c kn pm n i, (c, kn, pm, n, i) ∈ T.mkk → MkKOk X c kn (arK n pm (ρ i))
  sp : ∀ m tb, T.sp.lookup m = some tb → SpcOk X m (meR ρ tb)
  cmk : ∀ c m kn pm n i, (c, m, kn, pm, n, i) ∈ T.cmk → CmKOk X c m kn pm n (ρ i)
def slotOf (N : List Str) (x : Str) : Option Nat := N.findIdx? (· == x)
theorem slotOf_get {N : List Str} {x : Str} {i : Nat} (h : slotOf N x = some i) : N[i]? = some x := by
  unfold slotOf at h
  rw [List.findIdx?_eq_some_iff_getElem] at h
  obtain ⟨hi, e, _⟩ := h
  rw [List.getElem?_eq_getElem hi]
  exact congrArg some (eq_of_beq e)
def oddName (x : Str) : Bool := x == ("__debug__" : Str) || x == ("__classdict__" : Str) || x == ("__name__" : Str)
theorem odd_no {x : Str} (h : oddName x = false) : (x == ("__debug__" : Str)) = false ∧ (x == ("__classdict__" : Str)) = false ∧ x ≠ "__name__" := by
  unfold oddName at h
  rw [Bool.or_eq_false_iff, Bool.or_eq_false_iff] at h
  exact ⟨h.1.1, h.1.2, fun e => by rw [e] at h; exact absurd h.2 (by decide)⟩
def trName (T : Tab) (sc : Scope) (x : Str) : Option Den := if oddName x = true then none else match sc.names.lookup x with
  | some .local => (slotOf T.N x).map dVar
  | some .cell => (slotOf T.N x).map dVar
  | some .free => (slotOf T.N x).map dVar
  | some .globalImplicit => (T.cn.lookup x).map dC
  | _ => none
section
variable {X : Cx} {T : Tab} {ρ : Ro} {sc : Scope}
theorem name_ok (C : Ct X T ρ) (es : X.env.scope = sc) {x : Str} {d : Den} {pos : Pos} (h : trName T sc x = some d) : PE X (.Name x pos) (rdE X.K d) := by
  subst es
  unfold trName at h
  split at h
  · cases h
  · rename_i ho
    obtain ⟨o1, o2, o3⟩ := odd_no (Bool.not_eq_true _ |>.mp ho)
    have loc : Vis X.env.scope x → (slotOf T.N x).map dVar = some d → PE X (.Name x pos) (rdE X.K d) := fun v h => by
      cases q : slotOf T.N x with
      | none => rw [q] at h; cases h
      | some i => rw [q] at h; cases h; exact s_var (by rw [C.N]; exact slotOf_get q) v o1 o2
    split at h
    · rename_i z; exact loc (.inl z) h
    · rename_i z; exact loc (.inr (.inl z)) h
    · rename_i z; exact loc (.inr (.inr z)) h
    · rename_i z
      cases q : T.cn.lookup x with
      | none => rw [q] at h; cases h
      | some c =>
        rw [q] at h; cases h
        obtain ⟨u, v, m, r, rp⟩ := C.cn x c q
        exact (pe_glob z m r o1).wkn fun σ H Q ⟨ι, e, h, R, k⟩ => k.here R (rp ι H)
    · cases h
/-- a reading of expressions, of tests -/
def SE (X : Cx) (r : Expr → Option Den) : Prop := ∀ e d, r e = some d → PE X e (rdE X.K d)
def ST (X : Cx) (r : Expr → Option DenT) : Prop := ∀ e d, r e = some d → PT X e (rdT X.K d)
/-- items of a display, stars among them -/
def trAs (r : Expr → Option Den) : List Expr → Option DenA
  | [] => some aNil
  | e :: es => match e with
    | .Starred a _ => bind2 (r a) (trAs r es) aStar
    | e => if plain e = true then bind2 (r e) (trAs r es) aCons else none
def trA (r : Expr → Option Den) : List Expr → Option DenA
  | [] => some aNil
  | e :: es => if plain e = true then bind2 (r e) (trA r es) aCons else none
theorem bind2_ok {α β γ : Type} {x : Option α} {y : Option β} {f : α → β → γ} {c : γ} (h : bind2 x y f = some c) : ∃ a b, x = some a ∧ y = some b ∧ f a b = c := by
  cases x with
  | none => cases h
  | some a =>
    cases y with
    | none => cases h
    | some b => cases h; exact ⟨a, b, rfl, rfl, rfl⟩
theorem trAs_ok {r : Expr → Option Den} (hr : SE X r) : ∀ {es : List Expr} {d : DenA}, trAs r es = some d → PA X es (rdA X.K d)
  | [], d, h => by cases h; exact s_nil
  | e :: es, d, h => by
    unfold trAs at h
    split at h
    · obtain ⟨a, b, q1, q2, rfl⟩ := bind2_ok h
      exact s_star (hr _ a q1) (trAs_ok hr q2)
    · split at h
      · rename_i pl
        obtain ⟨a, b, q1, q2, rfl⟩ := bind2_ok h
        exact s_cons (hr _ a q1) (trAs_ok hr q2) (star_of pl)
      · cases h
theorem trA_ok {r : Expr → Option Den} (hr : SE X r) : ∀ {es : List Expr} {d : DenA}, trA r es = some d → PA X es (rdA X.K d) ∧ es.all plain = true
  | [], d, h => by cases h; exact ⟨s_nil, rfl⟩
  | e :: es, d, h => by
    unfold trA at h
    split at h
    · rename_i pl
      obtain ⟨a, b, q1, q2, rfl⟩ := bind2_ok h
      obtain ⟨h1, h2⟩ := trA_ok hr q2
      exact ⟨s_cons (hr e a q1) h1 (star_of pl), by rw [List.all_cons, pl, h2]; rfl⟩
    · cases h
def trK (r : Expr → Option Den) : List Keyword → Option DenA
  | [] => some aNil
  | ⟨_, e, _⟩ :: es => bind2 (r e) (trK r es) aCons
theorem trK_ok {r : Expr → Option Den} (hr : SE X r) : ∀ {es : List Keyword} {d : DenA}, trK r es = some d → PK X es (rdA X.K d)
  | [], d, h => by cases h; exact k_nil
  | ⟨nm, e, kp⟩ :: es, d, h => by
    unfold trK at h
    obtain ⟨a, b, q1, q2, rfl⟩ := bind2_ok h
    exact k_cons (hr e a q1) (trK_ok hr q2)
/-! ### the built-in functions by name -/
def b1t : List (Str × F1) := [("len", fLen), ("abs", fAbs), ("int", fInt), ("str", fStr), ("repr", fRepr), ("tuple", fTup), ("list", fLst), ("all", fAll), ("any", fAny), ("sum", fSum), ("max", fMax), ("min", fMin), ("sorted", fSrt)]
def b2t : List (Str × F2) := [("max", fMax2), ("min", fMin2), ("divmod", fDm)]
def tyt : List (Str × TyT) := [("int", .int), ("bool", .bl), ("str", .str), ("tuple", .tup), ("list", .lst)]
theorem look_mem {α : Type} {x : Str} {a : α} : ∀ {l : List (Str × α)}, l.lookup x = some a → (x, a) ∈ l
  | [], h => by cases h
  | (y, b) :: l, h => by
    rw [List.lookup_cons] at h
    split at h
    · rename_i e
      cases h
      rw [eq_of_beq e]
      exact List.mem_cons_self ..
    · exact List.mem_cons_of_mem _ (look_mem h)
structure B1 (X : Cx) (x : Str) (f : F1) : Prop where
  run : ∀ {a : Expr} {da : Den} {p pos : Pos}, X.mg x = none → Gl X x → PE X a (rdE X.K da) → plain a = true → PE X (.Call (.Name x p) [a] [] pos) (rdE X.K (dB1 f da))
theorem b1_len : B1 X "len" fLen := ⟨fun hm hg ha pa => c1_b call_len ok_len PySem.boot_len (by decide) (by decide) hg hm ha pa⟩
theorem b1_abs : B1 X "abs" fAbs := ⟨fun hm hg ha pa => c1_b call_abs ok_abs (by decide +kernel) (by decide) (by decide) hg hm ha pa⟩
theorem b1_int : B1 X "int" fInt := ⟨fun hm hg ha pa => c1_t (call_int1.or call_int_str) ok_int (by decide +kernel) (by decide) (by decide) hg hm ha pa⟩
theorem b1_str : B1 X "str" fStr := ⟨fun hm hg ha pa => c1_t (call_str_int.or SkE.call_str_str) ok_str (by decide +kernel) (by decide) (by decide) hg hm ha pa⟩
theorem b1_repr (C : Ct X T ρ) : B1 X "repr" fRepr := ⟨fun hm hg ha pa => c1_b (cr_reprT C.un.2 C.gd C.un.1) ok_repr (by decide +kernel) (by decide) (by decide) hg hm ha pa⟩
theorem b1_tuple : B1 X "tuple" fTup := ⟨fun hm hg ha pa => c1_t call_tuple_of ok_tup (by decide +kernel) (by decide) (by decide) hg hm ha pa⟩
theorem b1_list : B1 X "list" fLst := ⟨fun hm hg ha pa => c1_t call_list_of ok_lst (by decide +kernel) (by decide) (by decide) hg hm ha pa⟩
theorem b1_all (C : Ct X T ρ) : B1 X "all" fAll := ⟨fun hm hg ha pa => c1_b (cr_all C.calm) ok_all (by decide +kernel) (by decide) (by decide) hg hm ha pa⟩
theorem b1_any (C : Ct X T ρ) : B1 X "any" fAny := ⟨fun hm hg ha pa => c1_b (cr_any C.calm) ok_any (by decide +kernel) (by decide) (by decide) hg hm ha pa⟩
theorem b1_sum (C : Ct X T ρ) : B1 X "sum" fSum := ⟨fun hm hg ha pa => c1_b ((cr_sum C.calm).or (cr_sumT C.calm)) ok_sum (by decide +kernel) (by decide) (by decide) hg hm ha pa⟩
theorem b1_max (C : Ct X T ρ) : B1 X "max" fMax := ⟨fun hm hg ha pa => c1_b (cr_max C.calm) ok_max (by decide +kernel) (by decide) (by decide) hg hm ha pa⟩
theorem b1_min (C : Ct X T ρ) : B1 X "min" fMin := ⟨fun hm hg ha pa => c1_b (cr_min C.calm) ok_min (by decide +kernel) (by decide) (by decide) hg hm ha pa⟩
theorem b1_srt : B1 X "sorted" fSrt := ⟨fun hm hg ha pa => c1_b cr_sortedI ok_srt (by decide +kernel) (by decide) (by decide) hg hm ha pa⟩
theorem mem_cons2 {α : Type} {a b : α} {l : List α} (h : a ∈ b :: l) : a = b ∨ a ∈ l := List.mem_cons.mp h
theorem b1_ok (C : Ct X T ρ) {x : Str} {f : F1} (h : b1t.lookup x = some f) : B1 X x f := by
  have m := look_mem h
  clear h
  unfold b1t at m
  rcases mem_cons2 m with e | m
  · cases e; exact b1_len
  rcases mem_cons2 m with e | m
  · cases e; exact b1_abs
  rcases mem_cons2 m with e | m
  · cases e; exact b1_int
  rcases mem_cons2 m with e | m
  · cases e; exact b1_str
  rcases mem_cons2 m with e | m
  · cases e; exact b1_repr C
  rcases mem_cons2 m with e | m
  · cases e; exact b1_tuple
  rcases mem_cons2 m with e | m
  · cases e; exact b1_list
  rcases mem_cons2 m with e | m
  · cases e; exact b1_all C
  rcases mem_cons2 m with e | m
  · cases e; exact b1_any C
  rcases mem_cons2 m with e | m
  · cases e; exact b1_sum C
  rcases mem_cons2 m with e | m
  · cases e; exact b1_max C
  rcases mem_cons2 m with e | m
  · cases e; exact b1_min C
  rcases mem_cons2 m with e | m
  · cases e; exact b1_srt
  · cases m
/-- len, list of a name that holds a dict -/
def ldt : List (Str × F1) := [("len", fLn), ("list", fLs)]
theorem ld_ok (C : Ct X T ρ) {x : Str} {f : F1} (h : ldt.lookup x = some f) : B1 X x f := by
  have m := look_mem h
  clear h
  unfold ldt at m
  rcases mem_cons2 m with e | m
  · cases e; exact ⟨fun hm hg ha pa => c1_b (call_lenX.or call_len) ok_ln PySem.boot_len (by decide) (by decide) hg hm ha pa⟩
  rcases mem_cons2 m with e | m
  · cases e; exact ⟨fun hm hg ha pa => c1_t ((call_listD C.calm).or call_list_of) ok_ls (by decide +kernel) (by decide) (by decide) hg hm ha pa⟩
  · cases m
structure B2 (X : Cx) (x : Str) (f : F2) : Prop where
  run : ∀ {a b : Expr} {da db : Den} {p pos : Pos}, X.mg x = none → Gl X x → PE X a (rdE X.K da) → plain a = true → PE X b (rdE X.K db) → plain b = true → PE X (.Call (.Name x p) [a, b] [] pos) (rdE X.K (dB2 f da db))
theorem b2_max (C : Ct X T ρ) : B2 X "max" fMax2 := ⟨fun hm hg ha pa hb pb => c2_b (call_max2 C.calm) ok_max2 (by decide +kernel) (by decide) (by decide) hg hm ha pa hb pb⟩
theorem b2_min (C : Ct X T ρ) : B2 X "min" fMin2 := ⟨fun hm hg ha pa hb pb => c2_b (call_min2 C.calm) ok_min2 (by decide +kernel) (by decide) (by decide) hg hm ha pa hb pb⟩
theorem b2_dm : B2 X "divmod" fDm := ⟨fun hm hg ha pa hb pb => c2_b call_divmod ok_dm (by decide +kernel) (by decide) (by decide) hg hm ha pa hb pb⟩
theorem b2_ok (C : Ct X T ρ) {x : Str} {f : F2} (h : b2t.lookup x = some f) : B2 X x f := by
  have m := look_mem h
  clear h
  unfold b2t at m
  rcases mem_cons2 m with e | m
  · cases e; exact b2_max C
  rcases mem_cons2 m with e | m
  · cases e; exact b2_min C
  rcases mem_cons2 m with e | m
  · cases e; exact b2_dm
  · cases m
theorem tyT_boot {x : Str} {t : TyT} (h : tyt.lookup x = some t) : bootBuiltins x = some (.type t.name) ∧ x ≠ "__name__" ∧ (x == ("__debug__" : Str)) = false := by
  have m := look_mem h
  clear h
  unfold tyt at m
  rcases mem_cons2 m with e | m
  · cases e; exact ⟨by decide +kernel, by decide, by decide⟩
  rcases mem_cons2 m with e | m
  · cases e; exact ⟨by decide +kernel, by decide, by decide⟩
  rcases mem_cons2 m with e | m
  · cases e; exact ⟨by decide +kernel, by decide, by decide⟩
  rcases mem_cons2 m with e | m
  · cases e; exact ⟨by decide +kernel, by decide, by decide⟩
  rcases mem_cons2 m with e | m
  · cases e; exact ⟨by decide +kernel, by decide, by decide⟩
  · cases m
end
end Ev
/-! EvM: the text as readings: expressions. -/
namespace Ev
open PySem PySem.Spec L2
variable [TheW]

/-! ### a list, a tuple or a text is walked -/
section
variable {X : Cx} {tg l : Expr} {K : PySem.W.Frag} {ι : Io} {h : Hs} {H : Hp} {da : Den}
def iAny (K : PySem.W.Frag) (tl : TE) : TI := fun σ H R => tl σ H fun x H1 => (∃ a xs, x = .ref a ∧ SqL K H1 a xs ∧ R (Itl K a) H1) ∨ (∃ a xs, x = .ref a ∧ SqT K H1 a xs ∧ R (Itt K a) H1) ∨ (∃ z, x = .str z ∧ R (Its z) H1) ∨ ∃ d o kv, x = .ref d ∧ H1 d = some (XO d o) ∧ (o.ExactDict ∧ ∃ es ep, o.data = .dict es ep ∧ Vals kv (es.toList.map (·.key))) ∧ (d == sysModules) = false ∧ R (Itn d o kv) H1
theorem pi_any {tl : TE} (hw : TheW.w = X.w) (hl : PE X l tl) : PI X tg l (iAny X.K tl) := by
  constructor
  intro pins s σ H R I h
  refine thn (hl.run pins s σ H _ I h) ?_
  rintro v s1 ⟨x, H1, I1, r1, q1⟩
  rcases q1 with ⟨a, xs, rfl, hq, q⟩ | ⟨a, xs, rfl, hq, q⟩ | ⟨z, rfl, q⟩ | ⟨d, o, xs, rfl, hd, de, hs, q⟩
  rotate_left 3
  · cases r1
    obtain ⟨hgd, _⟩ := I1.hok d _ hd
    obtain ⟨hx, es, ep, hdt, hee⟩ := de
    exact iter_keys hs hgd hx hdt (pi_one (tk := s1.toks) I1 _ (turn_keysN (w := X.w) _ hdt hee) ⟨_, Heap.get?_push_size _ rfl, rfl, rfl⟩ q)
  · cases r1
    obtain ⟨its, _, p, _⟩ := I1.list hq
    exact wpAny_pyIter_list p.isList (pi_one (tk := s1.toks) I1 _ (turn_list a _) ⟨_, Heap.get?_push_size _ rfl, rfl, rfl⟩ q)
  · cases r1
    obtain ⟨its, _, p, _⟩ := I1.tuple hq
    exact wpAny_pyIter_tuple (show s1.heap.IsTuple a its.toArray from p) (pi_one (tk := s1.toks) I1 _ (turn_tuple a _) ⟨_, Heap.get?_push_size _ rfl, rfl, rfl⟩ q)
  · obtain ⟨t, rfl⟩ := r1
    cases ha : z.cps.all (· < 128)
    · exact wpAny_pyIter_wide ha (pi_one (tk := s1.toks) I1 _ (turn_str _ z t "str_iterator" (.inr rfl)) ⟨_, Heap.get?_push_size _ rfl, rfl, rfl⟩ q)
    · exact wpAny_pyIter_ascii ha (pi_one (tk := s1.toks) I1 _ (turn_str _ z t "str_ascii_iterator" (.inl rfl)) ⟨_, Heap.get?_push_size _ rfl, rfl, rfl⟩ q)
def signs (z : Str) : List D := z.cps.toList.map fun c => .str ⟨#[c]⟩
theorem wk_str {z : Str} : Wk K ι h H (signs z) (Its z) := by
  refine ⟨fun _ _ _ => True, trivial, fun _ _ _ _ _ _ _ _ => trivial, fun ι h H i d _ R q => ?_, fun ι h H _ => ?_⟩
  · unfold signs at q
    rw [List.getElem?_map, Array.getElem?_toList] at q
    cases w : z.cps[i]? with
    | none => rw [w] at q; cases q
    | some c =>
      rw [w] at q
      cases q
      refine ⟨(Array.getElem?_eq_some_iff.mp w).1, fun x H' y => ?_⟩
      obtain ⟨rfl, c', e, rfl⟩ := y
      rw [w] at e; cases e
      exact ⟨.refl, R, .str _⟩
  · show z.cps.size ≤ (signs z).length
    unfold signs
    rw [List.length_map, Array.length_toList]
    exact Nat.le_refl _
def srcA (x : D) (h : Hs) : Option Src := match x with
  | .lst xs => some ⟨xs, none⟩
  | .scr xs => some ⟨xs, none⟩
  | .tup xs => some ⟨xs, none⟩
  | .str z => some ⟨signs z, none⟩
  | .dct ks _ => some ⟨kds ks, none⟩
  | .ref m => match dctAt (.ref m) h with
    | some p => some ⟨kds p.1, some m⟩
    | none => (lstAt h m).map fun xs => ⟨xs, some m⟩
  | _ => none
theorem wk_dct {a : Addr} {o : Obj} {kv : List V} {xs : List D} (w : H a = some (XO a o)) (no : ¬ Own ι a) (r : RepL K ι H xs kv) : Wk K ι h H xs (Itn a o kv) :=
  wk_seq (a := a) (fun H => H a = some (XO a o)) (fun ι h H => (H a = some (XO a o) ∧ ¬ Own ι a) ∧ RepL K ι H xs kv) ⟨⟨w, no⟩, r⟩ (fun _ _ _ _ _ _ s x => ⟨x.fz _ _ s.1.1 s.1.2, s.2.pr x⟩) (fun _ _ _ s => ⟨s.1.1, s.2⟩)
    (fun H i x t q => ⟨t, (List.getElem?_eq_some_iff.mp q).1⟩) (fun H i x H' t y => y) (fun H t => ⟨t, Nat.le_refl _⟩)
theorem wk_dcell {a : Addr} {o : Obj} {kv : List V} {xs : List D} {m : Nat} (qm : ι.c[m]? = some (some a)) (nm : ¬ Mt ι h a) (w : H a = some (XO a o)) (r : RepL K ι H xs kv) : Wk K ι h H xs (Itn a o kv) :=
  wk_seq (a := a) (fun H => H a = some (XO a o)) (fun ι h H => ι.c[m]? = some (some a) ∧ ¬ Mt ι h a ∧ H a = some (XO a o) ∧ RepL K ι H xs kv) ⟨qm, nm, w, r⟩
    (fun _ _ _ _ _ _ s x => ⟨x.keep s.1 s.2.2.1 s.2.1, (x.nm m _ _ s.1 s.2.2.1 s.2.1).2, (x.nm m _ _ s.1 s.2.2.1 s.2.1).1, s.2.2.2.pr x⟩) (fun _ _ _ s => ⟨s.2.2.1, s.2.2.2⟩)
    (fun H i x t q => ⟨t, (List.getElem?_eq_some_iff.mp q).1⟩) (fun H i x H' t y => y) (fun H t => ⟨t, Nat.le_refl _⟩)
def iVal (a : Den) : DenI := fun e h => (a e h).bind fun x h => match srcA x h with
  | some s => .ok s h
  | none => .bad
theorem lock_mt {m : Nat} {p : Addr} (R1 : RH K ι h H) (qa : ι.c[m]? = some (some p)) : ¬ Mt ι (lockC m h) p := fun z => by
  obtain ⟨n, qn, o, ho⟩ := z
  have : n = m := R1.inj n m p qn qa
  subst this
  rw [lockC_get, if_pos rfl] at ho
  split at ho
  · cases ho
  · rename_i hh; exact hh o ho
theorem i_val (hw : TheW.w = X.w) (ha : PE X l (rdE X.K da)) : PI X tg l (rdI X.K (iVal da)) :=
  (pi_any hw ha).wkn fun σ H R ⟨ι, e, h, q, k⟩ => ⟨ι, e, h, q, (KI.bindE k).imp fun v H1 ⟨d, h1, ι1, x1, R1, r1, k1⟩ => by
    cases d <;> try exact k1.elim
    · cases r1; exact .inr (.inr (.inl ⟨_, rfl, k1 ι1 H1 _ .refl R1 wk_str⟩))
    · cases r1 with
      | tup f t => exact .inr (.inl ⟨_, _, rfl, f.sq, k1 ι1 H1 _ .refl R1 (wk_tup f t)⟩)
    · cases r1 with
      | lst f t => exact .inl ⟨_, _, rfl, .of f.1, k1 ι1 H1 _ .refl R1 (wk_lst f t)⟩
    · cases r1 with
      | scr f t => exact .inl ⟨_, _, rfl, f.sq, k1 ι1 H1 _ .refl R1 (wk_scr f t)⟩
    · rename_i m
      unfold srcA at k1
      dsimp only at k1
      cases qd : dctAt (.ref m) h1 with
      | some p =>
        obtain ⟨ks, ds⟩ := p
        rw [qd] at k1
        dsimp only at k1
        unfold dctAt at qd
        dsimp only at qd
        cases q1 : cellAt h1 m with
        | none => rw [q1] at qd; cases qd
        | some o =>
          rw [q1] at qd
          cases o <;> try cases qd
          obtain ⟨b, rfl, qa, ⟨kv, vv, ⟨ob, e0, e1, e5⟩, rk, rv⟩, _⟩ := cellAt_rep R1.rh q1 r1
          exact .inr (.inr (.inr ⟨b, ob, kv, rfl, e0, dky_walk e1, e5, k1 ι1 H1 _ .refl R1 (wk_dcell (m := m) qa (lock_mt R1.rh qa) e0 rk)⟩))
      | none =>
      rw [qd] at k1
      dsimp only at k1
      cases q1 : lstAt h1 m with
      | none => rw [q1] at k1; exact k1.elim
      | some xs =>
        rw [q1] at k1
        obtain ⟨p, vs, rfl, ea, ra, qa⟩ := lstAt_rep R1.rh q1 r1
        exact .inl ⟨p, vs, rfl, .of ea, k1 ι1 H1 _ .refl R1 (wk_cell (m := m) qa (lock_mt R1.rh qa) ea ra)⟩
    · cases r1 with
      | dct f rk rv =>
        obtain ⟨⟨ob, e0, e1, e5⟩, no⟩ := f
        exact .inr (.inr (.inr ⟨_, ob, _, rfl, e0, dky_walk e1, e5, k1 ι1 H1 _ .refl R1 (wk_dct e0 no rk)⟩))⟩
end

/-! ### expressions -/
def trCmp (r : Expr → Option Den) (a : Expr) (ops : List CmpOp) (bs : List Expr) : Option DenT := match ops, bs with
  | [.Eq], [.Dict [] [] _] => (r a).map tDe0
  | [op], [b] => if okOp op b = true then bind2 (r a) (r b) (tCm op) else none
  | [o1, o2], [b, c] => if okOp o2 c = true then bind2 (r a) (bind2 (r b) (r c) Prod.mk) fun x yz => tChn o1 o2 x yz.1 yz.2 else none
  | _, _ => none
def trV (r : Expr → Option Den) (op : BoolOp) : List Expr → Option Den
  | [] => none
  | [a] => r a
  | a :: b :: rest => bind2 (r a) (trV r op (b :: rest)) (match op with | .And => dAn | .Or => dOr)
def trW (t : Expr → Option DenT) (op : BoolOp) : List Expr → Option DenT
  | [] => none
  | [a] => t a
  | a :: b :: rest => bind2 (t a) (trW t op (b :: rest)) (match op with | .And => tAn | .Or => tOr')
def trO (r : Expr → Option Den) : Option Expr → Option DenO
  | none => some oNo
  | some e => (r e).map oSome
/-- a plain index -/
def noSlice : Expr → Bool
  | .Slice .. => false
  | _ => true
def trSub (r : Expr → Option Den) (a i : Expr) : Option Den := match i with
  | .Slice lo hi none _ => bind2 (r a) (bind2 (trO r lo) (trO r hi) Prod.mk) fun x y => dSl x y.1 y.2
  | .Slice none none (some (.UnaryOp .USub (.Constant (.int 1) _ _) _)) _ => (r a).map dRev
  | i => if noSlice i = true then bind2 (r a) (r i) dIx else none
def isGl (T : Tab) (sc : Scope) (f : Str) : Bool := !oddName f && (match sc.names.lookup f with
  | some .globalImplicit => true
  | _ => false)
def seqK (f : Str) : Option Bool := if f = "list" then some false else if f = "tuple" then some true else none
theorem seqK_ok {f : Str} {t : Bool} (h : seqK f = some t) : f = if t = true then "tuple" else "list" := by
  unfold seqK at h
  split at h
  · cases h; assumption
  · split at h
    · cases h; assumption
    · cases h
def trRg (T : Tab) (sc : Scope) (r : Expr → Option Den) (t : Bool) (a : Expr) : Option Den := match a with
  | .Call (.Name g _) [b] [] _ => if g = "range" then if isGl T sc g = true then if T.bl.contains g = true then if plain b = true then (r b).map (dRg1 t) else none else none else none else none
  | .Call (.Name g _) [b, c] [] _ => if g = "range" then if isGl T sc g = true then if T.bl.contains g = true then if plain b = true then if plain c = true then bind2 (r b) (r c) (dRg2 t) else none else none else none else none else none
  | _ => none
def trRg' (T : Tab) (sc : Scope) (r : Expr → Option Den) (f : Str) (a : Expr) : Option Den := match seqK f with
  | some t => trRg T sc r t a
  | none => none
/-- len, list of a name that holds a dict -/
def ldF (T : Tab) (f : Str) (a : Expr) : Option F1 := match a with
  | .Name x _ => if T.ld.contains x = true then ldt.lookup f else none
  | _ => none
def trBi (T : Tab) (sc : Scope) (r : Expr → Option Den) (f : Str) (args : List Expr) : Option Den := if T.bl.contains f = true then (match args with
  | [a] => if plain a = true then (match trRg' T sc r f a with
    | some d => some d
    | none => (match ldF T f a with
      | some g => (r a).map (dB1 g)
      | none => bind2 (b1t.lookup f) (r a) dB1)) else none
  | [a, b] => if f = "isinstance" then (match b with
      | .Name t _ => if T.bl.contains t = true then if isGl T sc t = true then if plain a = true then bind2 (tyt.lookup t) (r a) fun t x => dB1 (fIsi t) x else none else none
        else (if isGl T sc t = true then if plain a = true then bind2 (T.io.lookup t) (r a) fun cs x => dB1 (fIsO cs t) x else none else none)
      | _ => none)
    else if plain a = true then if plain b = true then bind2 (b2t.lookup f) (bind2 (r a) (r b) Prod.mk) fun f xy => dB2 f xy.1 xy.2 else none else none
  | _ => none) else none
def findKw (T : Tab) (f : Str) (kws : List Keyword) : Option (Str × List Str × Nat × List Nat) := T.kw.find? fun q => q.1 == f && kws.map (·.arg) == q.2.1.map some
/-- a def that a name holds -/
def isVis (sc : Scope) (x : Str) : Bool := !oddName x && (match sc.names.lookup x with
  | some .local => true
  | some .cell => true
  | some .free => true
  | _ => false)
def trLoc (T : Tab) (ρ : Ro) (sc : Scope) (r : Expr → Option Den) (f : Str) (args : List Expr) (kws : List Keyword) : Option Den := match kws with
  | [] => (match args with
    | a :: as => if isVis sc f = true then bind2 (slotOf T.N f) (trA r (a :: as)) fun i d => dCallV (fvR ρ T.fv) (dVar i) d else none
    | [] => none)
  | _ => none
/-- C(k = v, ..) -/
def trMkk (T : Tab) (ρ : Ro) (r : Expr → Option Den) (f : Str) (args : List Expr) (kws : List Keyword) : Option Den := match args with
  | [] => bind2 (T.mkk.find? fun q => q.1 == f && kws.map (·.arg) == q.2.1.map some) (trK r kws) fun q a => dMkK f q.2.1.length (arK q.2.2.2.1 q.2.2.1 (ρ q.2.2.2.2)) a
  | _ => none
/-- calls of what is built in that ask a special method -/
def trSpS (T : Tab) (ρ : Ro) (sc : Scope) (r : Expr → Option Den) (f : Str) (args : List Expr) : Option Den := match args with
  | [a] => (match T.sp.lookup ("__str__" : Str) with
    | some tb => if f = "str" then if T.bl.contains f = true then if plain a = true then (r a).map (dStrI (meR ρ tb)) else none else none else trBi T sc r f args
    | none => trBi T sc r f args)
  | _ => trBi T sc r f args
def spK (f : Str) : Option Str := if f = "len" then some "__len__" else if f = "repr" then some "__repr__" else if f = "bool" then some "__bool__" else none
def spF (f : Str) : F1 × (D → Bool) := if f = "len" then (fLen, isLn) else if f = "repr" then (fRepr, isStr) else (fBoo, isBl)
def trSp (T : Tab) (ρ : Ro) (sc : Scope) (r : Expr → Option Den) (f : Str) (args : List Expr) : Option Den := match spK f with
  | none => trSpS T ρ sc r f args
  | some m => (match T.sp.lookup m with
    | none => trSpS T ρ sc r f args
    | some tb => (match args with
      | [a] => if T.bl.contains f = true then if plain a = true then (r a).map (dSpI (spF f).1 (spF f).2 (meR ρ tb)) else none else none
      | _ => none))
def trCall0 (T : Tab) (ρ : Ro) (sc : Scope) (r : Expr → Option Den) (f : Str) (args : List Expr) (kws : List Keyword) : Option Den := if isGl T sc f = true then (match T.fn.lookup f with
  | some (i, n) => (match kws with
    | [] => (match args with
      | [] => if n = 0 then some (dCall (ρ i) 0 aNil) else none
      | a :: as => (trA r (a :: as)).map (dCall (ρ i) n))
    | kws => (match args with
      | [] => bind2 (findKw T f kws) (trK r kws) fun q a => dCallK (ρ q.2.2.1) q.2.1.length q.2.2.2 a
      | _ => none))
  | none => (match T.mkr.lookup f with
    | some (n, i, st) => (match kws with
      | [] => (match args with
        | [] => some (dMk f (arB st n (ρ i)) aNil)
        | [.Starred a _] => (r a).map (dMkS f (arB st n (ρ i)))
        | a :: as => (trA r (a :: as)).map (dMk f (arB st n (ρ i))))
      | kws => trMkk T ρ r f args kws)
    | none => (match kws with
      | [] => trSp T ρ sc r f args
      | kws => trMkk T ρ r f args kws))) else trLoc T ρ sc r f args kws
def hkOf (T : Tab) (sc : Scope) (f : Str) (args : List Expr) (kws : List Keyword) : Option Den := match kws with
  | [] => if T.hs sc = true then T.hk sc f args else none
  | _ => none
def trCall (T : Tab) (ρ : Ro) (sc : Scope) (r : Expr → Option Den) (f : Str) (args : List Expr) (kws : List Keyword) : Option Den := match hkOf T sc f args kws with
  | some d => some d
  | none => trCall0 T ρ sc r f args kws
def ctOf (T : Tab) (own : List Nat) (tg : Expr) : Option CT := match tg with
  | .Name x _ => match slotOf T.N x with
    | some i => if own.contains i = true then some (.name i) else none
    | none => none
  | .Tuple ts _ _ => match mapO (fun t => match t with
      | .Name x _ => match slotOf T.N x with
        | some i => if own.contains i = true then some i else none
        | none => none
      | _ => none) ts with
    | some is => some (.tup is)
    | none => none
  | _ => none
def noSet : Expr → Bool
  | .Set .. => false
  | _ => true
def isTupE : Expr → Bool
  | .Tuple .. => true
  | _ => false
def trIt (T : Tab) (sc : Scope) (r : Expr → Option Den) (tg e : Expr) : Option DenI := match e with
  | .Call (.Name f _) [a] [] _ => if f = "range" then (if isGl T sc f = true then if T.bl.contains f = true then if plain a = true then (r a).map iR1 else none else none else none) else
    if f = "enumerate" then (if isTupE tg = true then if isGl T sc f = true then if T.bl.contains f = true then if plain a = true then (r a).map iEnu else none else none else none else none) else (r e).map iVal
  | .Call (.Name f _) [a, b] [] _ => if f = "range" then (if isGl T sc f = true then if T.bl.contains f = true then if plain a = true then if plain b = true then bind2 (r a) (r b) iR2 else none else none else none else none) else (r e).map iVal
  | e => if noSet e = true then (r e).map iVal else none
section
variable {X : Cx} {T : Tab} {ρ : Ro} {sc : Scope} {pos p : Pos} {r : Expr → Option Den} {t : Expr → Option DenT}
theorem u64 (C : Ct X T ρ) : X.A.units + 65 < cLine ∧ TheW.w = X.w := ⟨by have := C.un.1; omega, C.un.2⟩
theorem cmp_ok (C : Ct X T ρ) (hr : SE X r) {a : Expr} {ops : List CmpOp} {bs : List Expr} {d : DenT} (h : trCmp r a ops bs = some d) : PE X (.Compare a ops bs pos) (rdE X.K (dOf d)) ∧ PT X (.Compare a ops bs pos) (rdT X.K d) := by
  unfold trCmp at h
  split at h
  · obtain ⟨x, q, rfl⟩ := Option.map_eq_some_iff.mp h
    exact ⟨s_de0 (u64 C) (hr _ _ q), t_de0 (u64 C) (hr _ _ q)⟩
  · split at h
    · rename_i hp
      obtain ⟨x, y, q1, q2, rfl⟩ := bind2_ok h
      exact ⟨s_cmp (u64 C) hp (hr _ _ q1) (hr _ _ q2), t_cmp (u64 C) hp (hr _ _ q1) (hr _ _ q2)⟩
    · cases h
  · split at h
    · rename_i hp
      obtain ⟨x, y, q1, q2, rfl⟩ := bind2_ok h
      obtain ⟨y1, y2, q3, q4, rfl⟩ := bind2_ok q2
      exact ⟨s_chain (u64 C) hp (hr _ _ q1) (hr _ _ q3) (hr _ _ q4), t_chain (u64 C) hp (hr _ _ q1) (hr _ _ q3) (hr _ _ q4)⟩
    · cases h
  · cases h
/-- with the classes' own == -/
def trCmpT (T : Tab) (ρ : Ro) (r : Expr → Option Den) (a : Expr) (ops : List CmpOp) (bs : List Expr) : Option DenT := match T.sp.lookup ("__eq__" : Str) with
  | none => trCmp r a ops bs
  | some tb => match ops, bs with
    | [.Eq], [b] => if okOp .Eq b = true then bind2 (r a) (r b) (tEqI (meR ρ tb)) else none
    | [.NotEq], [b] => if okOp .NotEq b = true then bind2 (r a) (r b) (tNeI (meR ρ tb)) else none
    | _, _ => trCmp r a ops bs
theorem cmpT_ok (C : Ct X T ρ) (hr : SE X r) {a : Expr} {ops : List CmpOp} {bs : List Expr} {d : DenT} (h : trCmpT T ρ r a ops bs = some d) : PE X (.Compare a ops bs pos) (rdE X.K (dOf d)) ∧ PT X (.Compare a ops bs pos) (rdT X.K d) := by
  unfold trCmpT at h
  split at h
  · exact cmp_ok C hr h
  · rename_i tb q
    split at h
    · split at h
      · rename_i hp
        obtain ⟨x, y, q1, q2, rfl⟩ := bind2_ok h
        exact ⟨s_eqI C.gd (u64 C) (C.sp _ _ q) hp (hr _ _ q1) (hr _ _ q2), t_eqI C.gd (u64 C) (C.sp _ _ q) hp (hr _ _ q1) (hr _ _ q2)⟩
      · cases h
    · split at h
      · rename_i hp
        obtain ⟨x, y, q1, q2, rfl⟩ := bind2_ok h
        exact ⟨s_neI C.gd (u64 C) (C.sp _ _ q) hp (hr _ _ q1) (hr _ _ q2), t_neI C.gd (u64 C) (C.sp _ _ q) hp (hr _ _ q1) (hr _ _ q2)⟩
      · cases h
    · exact cmp_ok C hr h
theorem v_ok (hr : SE X r) {op : BoolOp} : ∀ {vs : List Expr} {d : Den}, trV r op vs = some d → PE X (.BoolOp op vs pos) (rdE X.K d)
  | [], d, h => by cases h
  | [a], d, h => pe_one (hr a d h)
  | a :: b :: rest, d, h => by
    unfold trV at h
    obtain ⟨x, y, q1, q2, rfl⟩ := bind2_ok h
    have ih := v_ok (vs := b :: rest) hr q2
    cases op with
    | And => exact v_and (hr _ _ q1) ih
    | Or => exact v_or (hr _ _ q1) ih
theorem w_ok (ht : ST X t) {op : BoolOp} : ∀ {vs : List Expr} {d : DenT}, trW t op vs = some d → PW X (.BoolOp op vs pos) (rdT X.K d)
  | [], d, h => by cases h
  | [a], d, h => by
    cases op with
    | And => exact pw_and1 (ht a d h)
    | Or => exact pw_or1 (ht a d h)
  | a :: b :: rest, d, h => by
    unfold trW at h
    obtain ⟨x, y, q1, q2, rfl⟩ := bind2_ok h
    have ih := w_ok (vs := b :: rest) ht q2
    cases op with
    | And => exact w_and (ht _ _ q1) ih
    | Or => exact w_or (ht _ _ q1) ih
theorem o_ok (hr : SE X r) : ∀ {o : Option Expr} {d : DenO}, trO r o = some d → PO X o (rdO X.K d)
  | none, d, h => by cases h; exact o_none
  | some e, d, h => by
    change (r e).map oSome = some d at h
    cases q : r e with
    | none => rw [q] at h; cases h
    | some x => rw [q] at h; cases h; exact o_some (hr _ _ q)
theorem plainIx_of {i : Expr} (h : noSlice i = true) : PlainIx i := by
  intro o j
  cases i <;> first | rfl | cases h
theorem sub_ok (hu : X.A.units + 65 < cLine ∧ TheW.w = X.w) (hr : SE X r) {a i : Expr} {d : Den} (h : trSub r a i = some d) : PE X (.Subscript a i pos) (rdE X.K d) := by
  unfold trSub at h
  split at h
  · obtain ⟨x, y, q1, q2, rfl⟩ := bind2_ok h
    obtain ⟨y1, y2, q3, q4, rfl⟩ := bind2_ok q2
    exact s_sl (hr _ _ q1) (o_ok hr q3) (o_ok hr q4)
  · obtain ⟨x, q, rfl⟩ := Option.map_eq_some_iff.mp h
    exact s_rev (hr _ _ q)
  · split at h
    · rename_i hn
      obtain ⟨x, y, q1, q2, rfl⟩ := bind2_ok h
      exact s_ix hu (hr _ _ q1) (hr _ _ q2) (plainIx_of hn)
    · cases h
theorem isGl_ok (es : X.env.scope = sc) {f : Str} (h : isGl T sc f = true) : Gl X f ∧ (f == ("__debug__" : Str)) = false ∧ f ≠ "__name__" := by
  subst es
  unfold isGl at h
  rw [Bool.and_eq_true, Bool.not_eq_true'] at h
  obtain ⟨o1, _, o3⟩ := odd_no h.1
  refine ⟨?_, o1, o3⟩
  have h2 := h.2
  split at h2
  · assumption
  · cases h2
theorem contains_mem {l : List Str} {x : Str} (h : l.contains x = true) : x ∈ l := by simpa using h
theorem rg_ok (C : Ct X T ρ) (es : X.env.scope = sc) (hr : SE X r) {f : Str} {a : Expr} {d : Den} (gf : Gl X f) (mf : X.mg f = none) (h : trRg' T sc r f a = some d) : PE X (.Call (.Name f p) [a] [] pos) (rdE X.K d) := by
  unfold trRg' at h
  split at h
  · rename_i t hk
    have ef := seqK_ok hk
    unfold trRg at h
    split at h
    · split at h
      · rename_i eg
        subst eg
        split at h
        · rename_i hg
          split at h
          · rename_i hb
            split at h
            · rename_i pa
              obtain ⟨x, q, rfl⟩ := Option.map_eq_some_iff.mp h
              exact s_rg1 C.calm t ef gf mf (isGl_ok (X := X) es hg).1 (C.bl _ (contains_mem hb)) (hr _ _ q) pa
            · cases h
          · cases h
        · cases h
      · cases h
    · split at h
      · rename_i eg
        subst eg
        split at h
        · rename_i hg
          split at h
          · rename_i hb
            split at h
            · rename_i pa
              split at h
              · rename_i pb
                obtain ⟨x, y, q1, q2, rfl⟩ := bind2_ok h
                exact s_rg2 C.calm t ef gf mf (isGl_ok (X := X) es hg).1 (C.bl _ (contains_mem hb)) (hr _ _ q1) pa (hr _ _ q2) pb
              · cases h
            · cases h
          · cases h
        · cases h
      · cases h
    · cases h
  · cases h
theorem bi_ok (C : Ct X T ρ) (es : X.env.scope = sc) (hr : SE X r) {f : Str} {args : List Expr} {d : Den} (hf : isGl T sc f = true) (h : trBi T sc r f args = some d) : PE X (.Call (.Name f p) args [] pos) (rdE X.K d) := by
  obtain ⟨gf, gd, gn⟩ := isGl_ok (X := X) es hf
  unfold trBi at h
  split at h
  · rename_i hb
    have mf := C.bl f (contains_mem hb)
    split at h
    · split at h
      · rename_i pa
        split at h
        · rename_i q
          cases h
          exact rg_ok C es hr gf mf q
        · split at h
          · rename_i g q0
            obtain ⟨x, q, rfl⟩ := Option.map_eq_some_iff.mp h
            unfold ldF at q0
            split at q0
            · split at q0
              · exact (ld_ok C q0).run mf gf (hr _ _ q) pa
              · cases q0
            · cases q0
          · obtain ⟨x, y, q1, q2, rfl⟩ := bind2_ok h
            exact (b1_ok C q1).run mf gf (hr _ _ q2) pa
      · cases h
    · split at h
      · rename_i ef
        subst f
        split at h
        · split at h
          · rename_i ht
            split at h
            · rename_i hg
              split at h
              · rename_i pa
                obtain ⟨x, y, q1, q2, rfl⟩ := bind2_ok h
                obtain ⟨b1, b2, b3⟩ := tyT_boot q1
                exact s_isi b1 b2 b3 gf mf (isGl_ok (X := X) es hg).1 (C.bl _ (contains_mem ht)) (hr _ _ q2) pa
              · cases h
            · cases h
          · split at h
            · rename_i hg
              split at h
              · rename_i pa
                obtain ⟨x, y, q1, q2, rfl⟩ := bind2_ok h
                exact s_isO (C.io _ _ q1) (isGl_ok (X := X) es hg).1 (isGl_ok (X := X) es hg).2.1 gf mf (hr _ _ q2) pa
              · cases h
            · cases h
        · cases h
      · split at h
        · rename_i pa
          split at h
          · rename_i pb
            obtain ⟨x, y, q1, q2, rfl⟩ := bind2_ok h
            obtain ⟨y1, y2, q3, q4, rfl⟩ := bind2_ok q2
            exact (b2_ok C q1).run mf gf (hr _ _ q3) pa (hr _ _ q4) pb
          · cases h
        · cases h
    · cases h
  · cases h
theorem findKw_ok {f : Str} {kws : List Keyword} {q : Str × List Str × Nat × List Nat} (h : findKw T f kws = some q) : q ∈ T.kw ∧ q.1 = f ∧ kws.map (·.arg) = q.2.1.map some := by
  unfold findKw at h
  have m := List.mem_of_find?_eq_some h
  have e := List.find?_some h
  rw [Bool.and_eq_true] at e
  exact ⟨m, eq_of_beq e.1, eq_of_beq e.2⟩
theorem loc_ok (C : Ct X T ρ) (es : X.env.scope = sc) (hr : SE X r) {f : Str} {args : List Expr} {kws : List Keyword} {d : Den} (h : trLoc T ρ sc r f args kws = some d) : PE X (.Call (.Name f p) args kws pos) (rdE X.K d) := by
  subst es
  unfold trLoc at h
  split at h
  · split at h
    · split at h
      · rename_i hv
        obtain ⟨i, da, q1, q2, rfl⟩ := bind2_ok h
        obtain ⟨h1, h2⟩ := trA_ok hr q2
        unfold isVis at hv
        rw [Bool.and_eq_true, Bool.not_eq_true'] at hv
        obtain ⟨o1, o2, _⟩ := odd_no hv.1
        have vis : Vis X.env.scope f := by
          have z := hv.2
          split at z
          · rename_i y; exact .inl y
          · rename_i y; exact .inr (.inl y)
          · rename_i y; exact .inr (.inr y)
          · cases z
        exact s_callV C.fv C.gd (by rw [C.N]; exact slotOf_get q1) vis o1 o2 h1 h2
      · cases h
    · cases h
  · cases h
theorem mkk_ok (C : Ct X T ρ) {f : Str} (gf : Gl X f) (gd : (f == ("__debug__" : Str)) = false) (hr : SE X r) {args : List Expr} {kws : List Keyword} {d : Den} (h : trMkk T ρ r f args kws = some d) : PE X (.Call (.Name f p) args kws pos) (rdE X.K d) := by
  unfold trMkk at h
  split at h
  · obtain ⟨q, a, q1, q2, rfl⟩ := bind2_ok h
    obtain ⟨c, kn, pm, n, i⟩ := q
    have mem := List.mem_of_find?_eq_some q1
    have e := List.find?_some q1
    rw [Bool.and_eq_true] at e
    have e1 : c = f := eq_of_beq e.1
    subst e1
    exact s_mkK C.gd (C.mkk _ _ _ _ _ mem) gf gd (trK_ok hr q2) (eq_of_beq e.2)
  · cases h
theorem spS_ok (C : Ct X T ρ) (es : X.env.scope = sc) (hr : SE X r) {f : Str} {args : List Expr} {d : Den} (hf : isGl T sc f = true) (h : trSpS T ρ sc r f args = some d) : PE X (.Call (.Name f p) args [] pos) (rdE X.K d) := by
  obtain ⟨gf, gd, gn⟩ := isGl_ok (X := X) es hf
  unfold trSpS at h
  split at h
  · split at h
    · rename_i tb q
      split at h
      · rename_i ef
        subst ef
        split at h
        · rename_i hb
          split at h
          · rename_i pa
            obtain ⟨x, q2, rfl⟩ := Option.map_eq_some_iff.mp h
            exact s_strI C.gd C.un.1 (C.sp _ _ q) gf (C.bl _ (contains_mem hb)) (hr _ _ q2) pa
          · cases h
        · cases h
      · exact bi_ok C es hr hf h
    · exact bi_ok C es hr hf h
  · exact bi_ok C es hr hf h
theorem sp_ok (C : Ct X T ρ) (es : X.env.scope = sc) (hr : SE X r) {f : Str} {args : List Expr} {d : Den} (hf : isGl T sc f = true) (h : trSp T ρ sc r f args = some d) : PE X (.Call (.Name f p) args [] pos) (rdE X.K d) := by
  unfold trSp at h
  split at h
  · exact spS_ok C es hr hf h
  · rename_i m hm
    split at h
    · exact spS_ok C es hr hf h
    · rename_i tb q
      split at h
      · split at h
        · rename_i hb
          split at h
          · rename_i pa
            obtain ⟨x, q2, rfl⟩ := Option.map_eq_some_iff.mp h
            obtain ⟨gf, gd, gn⟩ := isGl_ok (X := X) es hf
            unfold spK at hm
            split at hm
            · rename_i e
              subst e
              cases hm
              exact s_lenI C.gd (C.sp _ _ q) gf (C.bl _ (contains_mem hb)) (hr _ _ q2) pa
            · split at hm
              · rename_i e
                subst e
                cases hm
                exact s_reprI C.gd C.un.1 C.un.2 (C.sp _ _ q) gf (C.bl _ (contains_mem hb)) (hr _ _ q2) pa
              · split at hm
                · rename_i e
                  subst e
                  cases hm
                  exact s_boolI C.gd (C.sp _ _ q) gf (C.bl _ (contains_mem hb)) (hr _ _ q2) pa
                · cases hm
          · cases h
        · cases h
      · cases h
theorem call_ok0 (C : Ct X T ρ) (es : X.env.scope = sc) (hr : SE X r) {f : Str} {args : List Expr} {kws : List Keyword} {d : Den} (h : trCall0 T ρ sc r f args kws = some d) : PE X (.Call (.Name f p) args kws pos) (rdE X.K d) := by
  unfold trCall0 at h
  split at h
  · rename_i hf
    obtain ⟨gf, gd, gn⟩ := isGl_ok (X := X) es hf
    split at h
    · rename_i i n q
      obtain ⟨fa, fd, ps, k, m, kp, F, hro, hb⟩ := C.fn f i n q
      split at h
      · split at h
        · split at h
          · rename_i hn
            subst hn
            cases h
            exact s_call0 F hro C.gd gf m kp hb gd
          · cases h
        · rename_i a as
          cases q2 : trA r (a :: as) with
          | none => rw [q2] at h; cases h
          | some da =>
            rw [q2] at h; cases h
            obtain ⟨h1, h2⟩ := trA_ok hr q2
            exact s_call F hro C.gd gf m kp hb gd h1 h2
      · split at h
        · obtain ⟨x, y, q1, q2, rfl⟩ := bind2_ok h
          obtain ⟨x1, ks, i', pm⟩ := x
          obtain ⟨m1, e1, e2⟩ := findKw_ok q1
          simp only at e1 e2
          subst e1
          obtain ⟨fa, fd, ps, k, m, kp, F, hro, hb⟩ := C.kw _ _ _ _ m1
          exact s_callK F hro C.gd gf m kp hb gd e2 (trK_ok hr q2)
        · cases h
    · split at h
      · rename_i n i st q
        have mo := C.mkr f n i st q
        split at h
        · split at h
          · cases h
            exact s_mk0 C.gd mo gf gd
          · obtain ⟨x, q2, rfl⟩ := Option.map_eq_some_iff.mp h
            exact s_mkS C.gd mo gf gd (hr _ _ q2)
          · rename_i a as _
            cases q2 : trA r (a :: as) with
            | none => rw [q2] at h; cases h
            | some da =>
              rw [q2] at h; cases h
              obtain ⟨h1, h2⟩ := trA_ok hr q2
              exact s_mk C.gd mo gf gd h1 h2
        · exact mkk_ok C gf gd hr h
      · split at h
        · exact sp_ok C es hr hf h
        · exact mkk_ok C gf gd hr h
  · exact loc_ok C es hr h
theorem call_ok (C : Ct X T ρ) (es : X.env.scope = sc) (hr : SE X r) {f : Str} {args : List Expr} {kws : List Keyword} {d : Den} (h : trCall T ρ sc r f args kws = some d) : PE X (.Call (.Name f p) args kws pos) (rdE X.K d) := by
  unfold trCall at h
  split at h
  · rename_i q
    cases h
    unfold hkOf at q
    split at q
    · split at q
      · rename_i hh
        subst es
        exact C.hk hh _ _ _ q _ _
      · cases q
    · cases q
  · exact call_ok0 C es hr h
theorem it_ok (C : Ct X T ρ) (es : X.env.scope = sc) (hr : SE X r) {tg e : Expr} {d : DenI} (h : trIt T sc r tg e = some d) : PI X tg e (rdI X.K d) ∧ ∀ x, foldedSetIterable e X.env x = pure x := by
  have gen : ∀ {e : Expr} {d : DenI}, (r e).map iVal = some d → PI X tg e (rdI X.K d) := fun {e d} h => by
    cases q : r e with
    | none => rw [q] at h; cases h
    | some x => rw [q] at h; cases h; exact i_val (u64 C).2 (hr _ _ q)
  unfold trIt at h
  split at h
  · refine ⟨?_, fun _ => rfl⟩
    split at h
    · rename_i ef
      subst ef
      split at h
      · rename_i hg
        split at h
        · rename_i hb
          split at h
          · rename_i pa
            obtain ⟨x, q, rfl⟩ := Option.map_eq_some_iff.mp h
            exact i_r1 (isGl_ok (X := X) es hg).1 (C.bl _ (contains_mem hb)) (hr _ _ q) pa
          · cases h
        · cases h
      · cases h
    · split at h
      · rename_i ef
        subst ef
        split at h
        · rename_i ht
          split at h
          · rename_i hg
            split at h
            · rename_i hb
              split at h
              · rename_i pa
                obtain ⟨x, q, rfl⟩ := Option.map_eq_some_iff.mp h
                cases tg <;> cases ht
                exact i_enu (isGl_ok (X := X) es hg).1 (C.bl _ (contains_mem hb)) (hr _ _ q) pa
              · cases h
            · cases h
          · cases h
        · cases h
      · exact gen h
  · refine ⟨?_, fun _ => rfl⟩
    split at h
    · rename_i ef
      subst ef
      split at h
      · rename_i hg
        split at h
        · rename_i hb
          split at h
          · rename_i pa
            split at h
            · rename_i pb
              obtain ⟨x, y, q1, q2, rfl⟩ := bind2_ok h
              exact i_r2 (isGl_ok (X := X) es hg).1 (C.bl _ (contains_mem hb)) (hr _ _ q1) pa (hr _ _ q2) pb
            · cases h
          · cases h
        · cases h
      · cases h
    · exact gen h
  · split at h
    · rename_i hn
      refine ⟨gen h, fun x => ?_⟩
      cases e <;> first | rfl | cases hn
    · cases h
end
end Ev
/-! EvN: the text as readings: comprehensions, all expressions. -/
namespace Ev
open PySem PySem.Spec L2
variable [TheW]

def ownOf (T : Tab) (scope : Scope) : List (Str × Nat) := scope.names.filterMap fun y => match y.2 with
  | .local => (slotOf T.N y.1).map fun i => (y.1, i)
  | .cell => (slotOf T.N y.1).map fun i => (y.1, i)
  | _ => none
def trIfs (t : Expr → Option DenT) (ifs : List Expr) : Option DenT := match ifs with
  | [] => some tYs
  | [c] => t c
  | _ => none
def blkT (T : Tab) (sc scope : Scope) : Bool := blkC T.N sc scope (ownOf T scope) && !T.hs (relS scope sc)
theorem blkT_1 {T : Tab} {sc scope : Scope} (h : blkT T sc scope = true) : blkC T.N sc scope (ownOf T scope) = true := by
  unfold blkT at h
  rw [Bool.and_eq_true] at h
  exact h.1
theorem blkT_2 {T : Tab} {sc scope : Scope} (h : blkT T sc scope = true) : T.hs (relS scope sc) = false := by
  unfold blkT at h
  rw [Bool.and_eq_true, Bool.not_eq_true'] at h
  exact h.2
def trComp (T : Tab) (sc scope : Scope) (rO rI : Expr → Option Den) (tI : Expr → Option DenT) (tg it : Expr) (ifs : List Expr) (elt : Expr) : Option Den :=
  if blkT T sc scope = true then bind2 (bind2 (trIt T sc rO tg it) (ctOf T ((ownOf T scope).map (·.2)) tg) Prod.mk) (bind2 (trIfs tI ifs) (rI elt) Prod.mk) fun x y => dComp ((ownOf T scope).map (·.2)) x.1 x.2 y.1 y.2 else none
section
variable {X : Cx} {T : Tab} {ρ : Ro} {sc scope : Scope} {pos : Pos}
theorem ct_blk (C : Ct X T ρ) (okh : BlkOk X.N X.env.scope scope (ownOf T scope) ∧ T.hs (relS scope X.env.scope) = false) (s : Shared) (H : Hp) (K : Addr) (cl : List (Str × Addr)) (fp : List Addr) : Ct (X.blk s H scope (compEnvC scope cl K X.env) fp) T ρ :=
  ⟨C.N, C.nd, C.calm, .never, C.gd, C.un, okh.1.kind, C.bl, C.fn, C.kw, C.cn, fun f fl pr q => ⟨(C.at_ f fl pr q).fl, (C.at_ f fl pr q).pr⟩, fun m tb q => C.me m tb q, fun c n i st q => ⟨(C.mkr c n i st q).ex⟩, fun c m n i q => ⟨(C.cm c m n i q).ex⟩, fun c cs q => ⟨(C.io c cs q).ex⟩, ⟨C.fv.ex⟩, fun z => (by have z : T.hs (relS scope X.env.scope) = true := z; rw [okh.2] at z; cases z), fun m kn pm tb q => C.mek m kn pm tb q, fun c kn pm n i q => ⟨(C.mkk c kn pm n i q).ex⟩, fun m tb q => C.sp m tb q, fun c m kn pm n i q => ⟨(C.cmk c m kn pm n i q).ex⟩⟩
theorem own_look {i : Nat} {x : Str} (C : Ct X T ρ) (ok : BlkOk X.N X.env.scope scope (ownOf T scope)) (q : slotOf T.N x = some i) (m : ((ownOf T scope).map (·.2)).contains i = true) : scope.names.lookup x = some .local ∨ scope.names.lookup x = some .cell := by
  have m : i ∈ (ownOf T scope).map (·.2) := by simpa using m
  obtain ⟨⟨y, j⟩, mm, rfl⟩ := List.mem_map.mp m
  have hy : y = x := by
    have h1 := ok.ix (y, j) mm
    have h2 := slotOf_get q
    rw [C.N] at h1
    simp only at h1 h2
    rw [h1] at h2
    exact Option.some.inj h2
  subst hy
  unfold ownOf at mm
  obtain ⟨⟨z, k⟩, mz, e⟩ := List.mem_filterMap.mp mm
  have u := ok.uniq (z, k) mz
  cases k <;> try cases e
  all_goals
    simp only at e u
    cases w : slotOf T.N z with
    | none => rw [w] at e; cases e
    | some l => rw [w] at e; cases e; first | exact .inl u | exact .inr u
theorem name_put (C : Ct X T ρ) (ok : BlkOk X.N X.env.scope scope (ownOf T scope)) {x : Str} {i : Nat} (q : slotOf T.N x = some i) (m : ((ownOf T scope).map (·.2)).contains i = true) (s : Shared) (H : Hp) (K : Addr) (cl : List (Str × Addr)) (fp : List Addr) : PG (X.blk s H scope (compEnvC scope cl K X.env) fp) (.Name x pos) (gName i) := by
  have keep : ∀ {k : NameKind}, k ≠ .free → scope.names.lookup x = some k → (compEnvC scope cl K X.env).scope.names.lookup x = some k := fun {k} hk h => lookup_relS_keep (sc := X.env.scope) hk h
  have hi : X.N[i]? = some x := by rw [C.N]; exact slotOf_get q
  rcases own_look C ok q m with h | h
  · exact pg_name C.nd hi (.inl (keep (by decide) h)) (.inr (keep (by decide) h))
  · refine pg_name C.nd hi (.inr (keep (by decide) h)) (.inl ?_)
    show (scope.names.lookup x == some .cell) = true
    rw [h]; rfl
theorem ct_put (C : Ct X T ρ) (ok : BlkOk X.N X.env.scope scope (ownOf T scope)) {tg : Expr} {g : CT} (h : ctOf T ((ownOf T scope).map (·.2)) tg = some g) : (∀ (s : Shared) (H : Hp) (K : Addr) (cl : List (Str × Addr)) (fp : List Addr), PG (X.blk s H scope (compEnvC scope cl K X.env) fp) tg (g.rd X.K)) ∧ ∀ i ∈ g.slots, i ∈ (ownOf T scope).map (·.2) := by
  unfold ctOf at h
  split at h
  · split at h
    · rename_i i q
      split at h
      · rename_i m
        cases h
        exact ⟨fun s H K cl fp => name_put C ok q m s H K cl fp, fun j hj => by
          have : j = i := by simpa [CT.slots] using hj
          subst this
          simpa using m⟩
      · cases h
    · cases h
  · rename_i ts _ _
    split at h
    · rename_i is q
      cases h
      have all : ∀ {ts : List Expr} {is : List Nat}, mapO (fun t => match t with
          | .Name x _ => match slotOf T.N x with
            | some i => if ((ownOf T scope).map (·.2)).contains i = true then some i else none
            | none => none
          | _ => none) ts = some is → (∀ (s : Shared) (H : Hp) (K : Addr) (cl : List (Str × Addr)) (fp : List Addr), PGs (X.blk s H scope (compEnvC scope cl K X.env) fp) ts (gNames is)) ∧ (∀ i ∈ is, i ∈ (ownOf T scope).map (·.2)) ∧ (∀ env : Env, (assignEach ts env).length = is.length) ∧ ∀ env : Env, (assignEach ts env).findIdx? (·.1) = none := by
        intro ts
        induction ts with
        | nil => intro is q; cases q; exact ⟨fun _ _ _ _ _ => pgs_nil, fun i hi => (by cases hi), fun _ => rfl, fun _ => rfl⟩
        | cons t ts ih =>
          intro is q
          unfold mapO at q
          cases t <;> try cases q
          rename_i x px
          dsimp only at q
          cases q1 : slotOf T.N x with
          | none => rw [q1] at q; cases q
          | some i =>
            rw [q1] at q
            dsimp only at q
            by_cases m : ((ownOf T scope).map (·.2)).contains i = true
            · rw [if_pos m] at q
              dsimp only at q
              split at q
              · cases q
              · rename_i js q2
                cases q
                obtain ⟨a1, a2, a3, a4⟩ := ih q2
                refine ⟨fun s H K cl fp => pgs_cons (name_put C ok q1 m s H K cl fp) (a1 s H K cl fp) rfl, fun j hj => ?_, fun env => ?_, fun env => ?_⟩
                · rcases List.mem_cons.mp hj with rfl | hj
                  · simpa using m
                  · exact a2 j hj
                · show (assignEach ts env).length + 1 = _
                  rw [a3 env]; rfl
                · show List.findIdx? _ ((false, assign (.Name x px) env) :: assignEach ts env) = none
                  rw [List.findIdx?_cons, a4 env]; rfl
            · rw [if_neg m] at q; cases q
      obtain ⟨a1, a2, a3, a4⟩ := all q
      exact ⟨fun s H K cl fp => pg_or (pg_tup C.calm (a1 s H K cl fp) (a3 _) (a4 _)) (pg_lst C.calm (a1 s H K cl fp) (a3 _) (a4 _)), a2⟩
    · cases h
  · cases h
/-- a dict comprehension: in a cell, or told whole -/
def rVal (cell : Bool) (rI : Expr → Option Den) (vx : Expr) : Option Den := if cell = true then (match vx with
  | .List [] _ => some (dNew (nLst aNil))
  | e => rI e) else rI vx
def dDcB (cell : Bool) : List Nat → DenI → CT → DenT → Den → Den → Den := if cell = true then dDcN else dDcF
def trDc (cell : Bool) (T : Tab) (sc scope : Scope) (rO rI : Expr → Option Den) (tI : Expr → Option DenT) (tg it : Expr) (ifs : List Expr) (kx vx : Expr) : Option Den :=
  if blkT T sc scope = true then bind2 (bind2 (trIt T sc rO tg it) (ctOf T ((ownOf T scope).map (·.2)) tg) Prod.mk) (bind2 (trIfs tI ifs) (bind2 (rI kx) (rVal cell rI vx) Prod.mk) Prod.mk) fun x y => dDcB cell ((ownOf T scope).map (·.2)) x.1 x.2 y.1 y.2.1 y.2.2 else none
theorem tys_ok {X : Cx} : PTs X [] (rdT X.K tYs) := ⟨fun pins s σ H Q I ⟨ι, e, h, R, k⟩ => pts_nil.run pins s σ H Q I (k.here R rfl)⟩
theorem comp_pieces (C : Ct X T ρ) (es : X.env.scope = sc) {rO rI : Expr → Option Den} {tI : Expr → Option DenT} (hO : SE X rO)
    (hI : ∀ (s : Shared) (H : Hp) (K : Addr) (cl : List (Str × Addr)) (fp : List Addr), SE (X.blk s H scope (compEnvC scope cl K X.env) fp) rI) (hT : ∀ (s : Shared) (H : Hp) (K : Addr) (cl : List (Str × Addr)) (fp : List Addr), ST (X.blk s H scope (compEnvC scope cl K X.env) fp) tI)
    {tg it elt : Expr} {ifs : List Expr} {d : Den} (h : trComp T sc scope rO rI tI tg it ifs elt = some d) :
    ∃ di g t el, d = dComp ((ownOf T scope).map (·.2)) di g t el ∧ BlkOk X.N X.env.scope scope (ownOf T scope) ∧ PI X tg it (rdI X.K di) ∧ (∀ x, foldedSetIterable it X.env x = pure x) ∧ (∀ (s : Shared) (H : Hp) (K : Addr) (cl : List (Str × Addr)) (fp : List Addr), PG (X.blk s H scope (compEnvC scope cl K X.env) fp) tg (g.rd X.K)) ∧ (∀ i ∈ g.slots, i ∈ (ownOf T scope).map (·.2)) ∧
      (∀ (s : Shared) (H : Hp) (K : Addr) (cl : List (Str × Addr)) (fp : List Addr), PTs (X.blk s H scope (compEnvC scope cl K X.env) fp) ifs (rdT X.K t)) ∧ ∀ (s : Shared) (H : Hp) (K : Addr) (cl : List (Str × Addr)) (fp : List Addr), PE (X.blk s H scope (compEnvC scope cl K X.env) fp) elt (rdE X.K el) := by
  unfold trComp at h
  split at h
  · rename_i hb
    obtain ⟨x, y, q1, q2, rfl⟩ := bind2_ok h
    obtain ⟨di, g, q3, q4, rfl⟩ := bind2_ok q1
    obtain ⟨t, el, q5, q6, rfl⟩ := bind2_ok q2
    have ok : BlkOk X.N X.env.scope scope (ownOf T scope) := by
      rw [C.N, es]
      exact blkOk_by (blkT_1 hb)
    obtain ⟨i1, i2⟩ := it_ok (tg := tg) C es hO q3
    obtain ⟨g1, g2⟩ := ct_put C ok q4
    refine ⟨di, g, t, el, rfl, ok, i1, i2, g1, g2, fun s H K cl fp => ?_, fun s H K cl fp => hI s H K cl fp _ _ q6⟩
    unfold trIfs at q5
    split at q5
    · cases q5; exact tys_ok
    · exact pts_one (hT s H K cl fp _ _ q5)
    · cases q5
  · cases h
theorem dc_pieces (C : Ct X T ρ) (es : X.env.scope = sc) {cell : Bool} {rO rI : Expr → Option Den} {tI : Expr → Option DenT} (hO : SE X rO)
    (hI : ∀ (s : Shared) (H : Hp) (K : Addr) (cl : List (Str × Addr)) (fp : List Addr), SE (X.blk s H scope (compEnvC scope cl K X.env) fp) rI) (hT : ∀ (s : Shared) (H : Hp) (K : Addr) (cl : List (Str × Addr)) (fp : List Addr), ST (X.blk s H scope (compEnvC scope cl K X.env) fp) tI)
    {tg it kx vx : Expr} {ifs : List Expr} {d : Den} (h : trDc cell T sc scope rO rI tI tg it ifs kx vx = some d) :
    ∃ di g t dk dv, d = dDcB cell ((ownOf T scope).map (·.2)) di g t dk dv ∧ BlkOk X.N X.env.scope scope (ownOf T scope) ∧ PI X tg it (rdI X.K di) ∧ (∀ x, foldedSetIterable it X.env x = pure x) ∧ (∀ (s : Shared) (H : Hp) (K : Addr) (cl : List (Str × Addr)) (fp : List Addr), PG (X.blk s H scope (compEnvC scope cl K X.env) fp) tg (g.rd X.K)) ∧ (∀ i ∈ g.slots, i ∈ (ownOf T scope).map (·.2)) ∧
      (∀ (s : Shared) (H : Hp) (K : Addr) (cl : List (Str × Addr)) (fp : List Addr), PTs (X.blk s H scope (compEnvC scope cl K X.env) fp) ifs (rdT X.K t)) ∧ (∀ (s : Shared) (H : Hp) (K : Addr) (cl : List (Str × Addr)) (fp : List Addr), PE (X.blk s H scope (compEnvC scope cl K X.env) fp) kx (rdE X.K dk)) ∧ ∀ (s : Shared) (H : Hp) (K : Addr) (cl : List (Str × Addr)) (fp : List Addr), PE (X.blk s H scope (compEnvC scope cl K X.env) fp) vx (rdE X.K dv) := by
  unfold trDc at h
  split at h
  · rename_i hb
    obtain ⟨x, y, q1, q2, rfl⟩ := bind2_ok h
    obtain ⟨di, g, q3, q4, rfl⟩ := bind2_ok q1
    obtain ⟨t, kv, q5, q6, rfl⟩ := bind2_ok q2
    obtain ⟨dk, dv, q7, q8, rfl⟩ := bind2_ok q6
    have ok : BlkOk X.N X.env.scope scope (ownOf T scope) := by
      rw [C.N, es]
      exact blkOk_by (blkT_1 hb)
    obtain ⟨i1, i2⟩ := it_ok (tg := tg) C es hO q3
    obtain ⟨g1, g2⟩ := ct_put C ok q4
    refine ⟨di, g, t, dk, dv, rfl, ok, i1, i2, g1, g2, fun s H K cl fp => ?_, fun s H K cl fp => hI s H K cl fp _ _ q7, fun s H K cl fp => ?_⟩
    · unfold trIfs at q5
      split at q5
      · cases q5; exact tys_ok
      · exact pts_one (hT s H K cl fp _ _ q5)
      · cases q5
    · unfold rVal at q8
      split at q8
      · split at q8
        · cases q8; exact s_new (n_lst s_nil)
        · exact hI s H K cl fp _ _ q8
      · exact hI s H K cl fp _ _ q8
  · cases h
theorem dcB_core {cell : Bool} {own : List Nat} {di : DenI} {g : CT} {t : DenT} {dk dv : Den} {K : PySem.W.Frag} {σ : St} {H : Hp} {Q : VK} (g2 : ∀ i ∈ g.slots, i ∈ own) (h : rdE K (dDcB cell own di g t dk dv) σ H Q) : tDcN TheW.w K (rdI K di) (g.rd K) (rdT K t) (rdE K dk) (rdE K dv) own σ H Q := by
  obtain ⟨ι, e, h, R, k⟩ := h
  refine compD_core g2 R ?_
  unfold dDcB at k
  split at k
  · exact kd_cell R k
  · exact kd_frz R k
theorem s_dcB (C : Ct X T ρ) {cell : Bool} {tg it kx vx : Expr} {ifs : List Expr} {di : DenI} {g : CT} {t : DenT} {dk dv : Den} (ok : BlkOk X.N X.env.scope scope (ownOf T scope)) (i1 : PI X tg it (rdI X.K di)) (i2 : ∀ x, foldedSetIterable it X.env x = pure x) (g1 : ∀ (s : Shared) (H : Hp) (K : Addr) (cl : List (Str × Addr)) (fp : List Addr), PG (X.blk s H scope (compEnvC scope cl K X.env) fp) tg (g.rd X.K)) (g2 : ∀ i ∈ g.slots, i ∈ (ownOf T scope).map (·.2))
    (t1 : ∀ (s : Shared) (H : Hp) (K : Addr) (cl : List (Str × Addr)) (fp : List Addr), PTs (X.blk s H scope (compEnvC scope cl K X.env) fp) ifs (rdT X.K t)) (k1 : ∀ (s : Shared) (H : Hp) (K : Addr) (cl : List (Str × Addr)) (fp : List Addr), PE (X.blk s H scope (compEnvC scope cl K X.env) fp) kx (rdE X.K dk)) (v1 : ∀ (s : Shared) (H : Hp) (K : Addr) (cl : List (Str × Addr)) (fp : List Addr), PE (X.blk s H scope (compEnvC scope cl K X.env) fp) vx (rdE X.K dv)) :
    PE X (.DictComp kx vx [⟨tg, it, ifs, 0⟩] scope pos) (rdE X.K (dDcB cell ((ownOf T scope).map (·.2)) di g t dk dv)) :=
  (pe_dcn (u64 C).1 C.calm C.nd i1 ok g1 t1 k1 v1 i2).wkn fun σ H Q h => by
    rw [← C.un.2]
    exact dcB_core g2 h
def trConst (c : Const) : Option Den := match c with
  | .int i => some (dC (.int i))
  | .bool b => some (dC (.bl b))
  | .none => some (dC .non)
  | .str s => some (dC (.str s))
  | _ => none
/-- the methods of what is built in, with one argument -/
def trMb (r : Expr → Option Den) (o : Expr) (m : Str) (apos : Pos) (b : Expr) (pos : Pos) : Option Den := if plain b = true then if nosuper o = true then if (apos.endLine == pos.line) = true then
  (if m = "append" then bind2 (r o) (r b) dApp else if m = "split" then bind2 (r o) (r b) (dTm fun _ => splitD) else if m = "join" then bind2 (r o) (r b) (dTm joinD) else if m = "index" then bind2 (r o) (r b) dIdx else none) else none else none else none
theorem mb_ok {r : Expr → Option Den} (hr : SE X r) {o b : Expr} {m : Str} {apos pos : Pos} {d : Den} (h : trMb r o m apos b pos = some d) : PE X (.Call (.Attribute o m apos) [b] [] pos) (rdE X.K d) := by
  unfold trMb at h
  split at h
  · rename_i pb
    split at h
    · rename_i no
      split at h
      · rename_i hl
        split at h
        · rename_i em
          subst em
          obtain ⟨x, y, q1, q2, rfl⟩ := bind2_ok h
          exact s_app (hr _ _ q1) (hr _ _ q2) pb no hl
        · split at h
          · rename_i em
            subst em
            obtain ⟨x, y, q1, q2, rfl⟩ := bind2_ok h
            exact s_split (hr _ _ q1) (hr _ _ q2) pb no hl
          · split at h
            · rename_i em
              subst em
              obtain ⟨x, y, q1, q2, rfl⟩ := bind2_ok h
              exact s_join (hr _ _ q1) (hr _ _ q2) pb no hl
            · split at h
              · rename_i em
                subst em
                obtain ⟨x, y, q1, q2, rfl⟩ := bind2_ok h
                exact s_idx (hr _ _ q1) (hr _ _ q2) pb no hl
              · cases h
      · cases h
    · cases h
  · cases h
/-- a method of the text's classes -/
def trMo (T : Tab) (ρ : Ro) (sc : Scope) (r : Expr → Option Den) (o : Expr) (m : Str) (apos : Pos) (args : List Expr) (pos : Pos) : Option Den := if okMeth o args apos pos = true then
  (match T.me.lookup m with
  | some tb => bind2 (r o) (trA r args) (dMet m (meR ρ tb))
  | none => (match o, args with
    | .Name c _, a :: as => (match T.cm.find? fun q => q.1 == c && q.2.1 == m with
      | some (c', m', n, i) => if isGl T sc c = true then (trA r (a :: as)).map (dCm c' n (ρ i)) else none
      | none => none)
    | _, _ => none)) else none
theorem mo_ok {T : Tab} {ρ : Ro} {sc : Scope} (C : Ct X T ρ) (es : X.env.scope = sc) {r : Expr → Option Den} (hr : SE X r) {o : Expr} {m : Str} {apos pos : Pos} {args : List Expr} {d : Den} (h : trMo T ρ sc r o m apos args pos = some d) : PE X (.Call (.Attribute o m apos) args [] pos) (rdE X.K d) := by
  unfold trMo at h
  split at h
  · rename_i hf
    split at h
    · rename_i tb q
      obtain ⟨x, y, q1, q2, rfl⟩ := bind2_ok h
      refine s_met C.gd (C.me m tb q) (hr _ _ q1) (trA_ok hr q2).1 (fun e => ?_) hf
      subst e
      cases q2; rfl
    · split at h
      · rename_i c p a as
        split at h
        · rename_i c' m' n i q
          have mem := List.mem_of_find?_eq_some q
          have e := List.find?_some q
          rw [Bool.and_eq_true] at e
          have e1 : c' = c := eq_of_beq e.1
          have e2 : m' = m := eq_of_beq e.2
          subst e1 e2
          split at h
          · rename_i hg
            obtain ⟨x, q2, rfl⟩ := Option.map_eq_some_iff.mp h
            exact s_cm C.gd (C.cm _ _ _ _ mem) (isGl_ok (X := X) es hg).1 (isGl_ok (X := X) es hg).2.1 (trA_ok hr q2).1 hf
          · cases h
        · cases h
      · cases h
  · cases h
/-- xs.pop(); d.get(k, x) -/
def trPg (r : Expr → Option Den) (o : Expr) (m : Str) (apos : Pos) (args : List Expr) (pos : Pos) : Option Den := if nosuper o = true then if (apos.endLine == pos.line) = true then (match args with
  | [] => if m = "pop" then (r o).map dPop else none
  | [a, b] => if m = "get" then if plain a = true then if plain b = true then bind2 (r o) (bind2 (r a) (r b) Prod.mk) fun x y => dGet x y.1 y.2 else none else none else none
  | _ => none) else none else none
theorem pg_ok {T : Tab} {ρ : Ro} (C : Ct X T ρ) {r : Expr → Option Den} (hr : SE X r) {o : Expr} {m : Str} {apos pos : Pos} {args : List Expr} {d : Den} (h : trPg r o m apos args pos = some d) : PE X (.Call (.Attribute o m apos) args [] pos) (rdE X.K d) := by
  unfold trPg at h
  split at h
  · rename_i no
    split at h
    · rename_i hl
      split at h
      · split at h
        · rename_i em
          subst em
          obtain ⟨x, q, rfl⟩ := Option.map_eq_some_iff.mp h
          exact s_pop (hr _ _ q) no hl
        · cases h
      · split at h
        · rename_i em
          subst em
          split at h
          · rename_i pa
            split at h
            · rename_i pb
              obtain ⟨x, y, q1, q2, rfl⟩ := bind2_ok h
              obtain ⟨y1, y2, q3, q4, rfl⟩ := bind2_ok q2
              exact s_get (u64 C) (hr _ _ q1) (hr _ _ q3) (hr _ _ q4) no pa pb hl
            · cases h
          · cases h
        · cases h
      · cases h
    · cases h
  · cases h
/-- C.m(k = v, ..) -/
def trCk (T : Tab) (ρ : Ro) (sc : Scope) (r : Expr → Option Den) (o : Expr) (m : Str) (apos : Pos) (kws : List Keyword) (pos : Pos) : Option Den := match o with
  | .Name c p => (match T.cmk.find? fun q => q.1 == c && q.2.1 == m && kws.map (·.arg) == q.2.2.1.map some && okMethK (.Name c p) kws apos pos with
    | some q => if isGl T sc c = true then (trK r kws).map fun y => dCmK c q.2.2.2.2.1 (ρ q.2.2.2.2.2) q.2.2.1.length q.2.2.2.1 y else none
    | none => none)
  | _ => none
theorem ck_ok {T : Tab} {ρ : Ro} {sc : Scope} (C : Ct X T ρ) (es : X.env.scope = sc) {r : Expr → Option Den} (hr : SE X r) {o : Expr} {m : Str} {apos pos : Pos} {kws : List Keyword} {d : Den} (h : trCk T ρ sc r o m apos kws pos = some d) : PE X (.Call (.Attribute o m apos) [] kws pos) (rdE X.K d) := by
  unfold trCk at h
  split at h
  · rename_i c p
    split at h
    · rename_i q qf
      split at h
      · rename_i hg
        obtain ⟨y, q4, rfl⟩ := Option.map_eq_some_iff.mp h
        obtain ⟨gf, gd, gn⟩ := isGl_ok (X := X) es hg
        obtain ⟨c', m', kn, pm, n, i⟩ := q
        have mem := List.mem_of_find?_eq_some qf
        have e := List.find?_some qf
        rw [Bool.and_eq_true, Bool.and_eq_true, Bool.and_eq_true] at e
        obtain ⟨⟨⟨e1, e2⟩, e3⟩, e4⟩ := e
        have e1 : c' = c := eq_of_beq e1
        have e2 : m' = m := eq_of_beq e2
        subst e1 e2
        exact s_cmK C.gd (C.cmk _ _ _ _ _ _ mem) gf gd (trK_ok hr q4) (eq_of_beq e3) e4
      · cases h
    · cases h
  · cases h
def trMeth (T : Tab) (ρ : Ro) (sc : Scope) (r : Expr → Option Den) (o : Expr) (m : Str) (apos : Pos) (args : List Expr) (kws : List Keyword) (pos : Pos) : Option Den := match kws with
  | [] => (match args with
    | [b] => (match trMb r o m apos b pos with
      | some d => some d
      | none => trMo T ρ sc r o m apos [b] pos)
    | args => (match trPg r o m apos args pos with
      | some d => some d
      | none => trMo T ρ sc r o m apos args pos))
  | kws => (match args with
    | [] => (match trCk T ρ sc r o m apos kws pos with
      | some d => some d
      | none => bind2 (T.mek.find? fun q => q.1 == m && kws.map (·.arg) == q.2.1.map some && okMethK o kws apos pos) (bind2 (r o) (trK r kws) Prod.mk) fun q x => dMetK m (meR ρ q.2.2.2) q.2.1.length q.2.2.1 x.1 x.2)
    | _ => none)
theorem meth_ok {T : Tab} {ρ : Ro} {sc : Scope} (C : Ct X T ρ) (es : X.env.scope = sc) {r : Expr → Option Den} (hr : SE X r) {o : Expr} {m : Str} {apos pos : Pos} {args : List Expr} {kws : List Keyword} {d : Den} (h : trMeth T ρ sc r o m apos args kws pos = some d) : PE X (.Call (.Attribute o m apos) args kws pos) (rdE X.K d) := by
  unfold trMeth at h
  split at h
  · split at h
    · split at h
      · rename_i q
        cases h
        exact mb_ok hr q
      · exact mo_ok C es hr h
    · split at h
      · rename_i q
        cases h
        exact pg_ok C hr q
      · exact mo_ok C es hr h
  · split at h
    · split at h
      · rename_i qc
        cases h
        exact ck_ok C es hr qc
      obtain ⟨q, x, q1, q2, rfl⟩ := bind2_ok h
      obtain ⟨dO, dA, q3, q4, rfl⟩ := bind2_ok q2
      obtain ⟨m', kn, pm, tb⟩ := q
      have mem := List.mem_of_find?_eq_some q1
      have e := List.find?_some q1
      rw [Bool.and_eq_true, Bool.and_eq_true] at e
      obtain ⟨⟨e1, e2⟩, e3⟩ := e
      have e1 : m' = m := eq_of_beq e1
      subst e1
      exact s_metK C.gd (C.mek _ _ _ _ mem) (hr _ _ q3) (trK_ok hr q4) (eq_of_beq e2) e3
    · cases h
def trAtt (T : Tab) (ρ : Ro) (r : Expr → Option Den) (a : Expr) (f : Str) : Option Den := if nosuper a = true then bind2 (T.at_.lookup f) (r a) fun q d => dAtt f q.1 (atR ρ q.2) d else none
theorem att_ok {T : Tab} {ρ : Ro} (C : Ct X T ρ) {r : Expr → Option Den} (hr : SE X r) {a : Expr} {f : Str} {pos : Pos} {d : Den} (h : trAtt T ρ r a f = some d) : PE X (.Attribute a f pos) (rdE X.K d) := by
  unfold trAtt at h
  split at h
  · rename_i no
    obtain ⟨⟨fl, pr⟩, y, q1, q2, rfl⟩ := bind2_ok h
    exact s_att C.gd (C.at_ f fl pr q1) (hr _ _ q2) no
  · cases h
def trDi (r : Expr → Option Den) (ks : List (Option Expr)) (vs : List Expr) : Option Den := match ks, vs with
  | [], [] => some dDf0
  | [some a], [b] => (match a with
    | .Constant (.str z) k p => (r b).map (dDf1S z)
    | a => bind2 (r a) (r b) dDf1)
  | _, _ => none
def noTest : Expr → Bool
  | .UnaryOp .Not .. => false
  | .BoolOp .. => false
  | .IfExp .. => false
  | .Compare .. => false
  | _ => true
end
mutual
def trE (T : Tab) (ρ : Ro) : Nat → Scope → Expr → Option Den
  | 0, _, _ => none
  | n + 1, sc, e => match e with
    | .Constant c _ _ => trConst c
    | .Name x _ => trName T sc x
    | .Tuple es _ _ => (trAs (trE T ρ n sc) es).map dTup
    | .List es _ => (trAs (trE T ρ n sc) es).map dLst
    | .BinOp a op b _ => bind2 (trE T ρ n sc a) (trE T ρ n sc b) (dBin op)
    | .UnaryOp op a _ => (match op with
      | .USub => (trE T ρ n sc a).map dNeg
      | .Not => (trE T ρ n sc a).map dNt
      | _ => none)
    | .BoolOp op vs _ => trV (trE T ρ n sc) op vs
    | .IfExp t a b _ => bind2 (trT T ρ n sc t) (bind2 (trE T ρ n sc a) (trE T ρ n sc b) Prod.mk) fun t ab => dIf t ab.1 ab.2
    | .Compare a ops bs _ => (trCmpT T ρ (trE T ρ n sc) a ops bs).map dOf
    | .Subscript a i _ => trSub (trE T ρ n sc) a i
    | .Call f args kws pos => (match f with
      | .Name x _ => trCall T ρ sc (trE T ρ n sc) x args kws
      | .Attribute o m apos => trMeth T ρ sc (trE T ρ n sc) o m apos args kws pos
      | _ => none)
    | .Attribute a f _ => trAtt T ρ (trE T ρ n sc) a f
    | .ListComp elt gens scope _ => (match gens with
      | [⟨tg, it, ifs, 0⟩] => trComp T sc scope (trE T ρ n sc) (trE T ρ n (relS scope sc)) (trT T ρ n (relS scope sc)) tg it ifs elt
      | _ => none)
    | .DictComp kx vx gens scope _ => (match gens with
      | [⟨tg, it, ifs, 0⟩] => trDc false T sc scope (trE T ρ n sc) (trE T ρ n (relS scope sc)) (trT T ρ n (relS scope sc)) tg it ifs kx vx
      | _ => none)
    | .Dict ks vs _ => trDi (trE T ρ n sc) ks vs
    | .JoinedStr es _ => trJs (trE T ρ n sc) es
    | _ => none
def trT (T : Tab) (ρ : Ro) : Nat → Scope → Expr → Option DenT
  | 0, _, _ => none
  | n + 1, sc, e => match e with
    | .UnaryOp .Not a _ => (trT T ρ n sc a).map tNt
    | .BoolOp op vs _ => trW (trT T ρ n sc) op vs
    | .Compare a ops bs _ => trCmpT T ρ (trE T ρ n sc) a ops bs
    | e => if noTest e = true then (trE T ρ n sc e).map tTru else none
end
theorem map_ok {α β : Type} {o : Option α} {f : α → β} {b : β} (h : o.map f = some b) : ∃ a, o = some a ∧ f a = b := Option.map_eq_some_iff.mp h
theorem tr_ok {T : Tab} {ρ : Ro} : ∀ n : Nat, (∀ (X : Cx) (sc : Scope), Ct X T ρ → X.env.scope = sc → SE X (trE T ρ n sc)) ∧ ∀ (X : Cx) (sc : Scope), Ct X T ρ → X.env.scope = sc → ST X (trT T ρ n sc)
  | 0 => ⟨fun X sc _ _ e d h => (by cases h), fun X sc _ _ e d h => (by cases h)⟩
  | n + 1 => by
    obtain ⟨ihE, ihT⟩ := tr_ok (T := T) (ρ := ρ) n
    refine ⟨fun X sc C es e d h => ?_, fun X sc C es e d h => ?_⟩
    · have hr := ihE X sc C es
      have ht := ihT X sc C es
      cases e with
      | Constant c k p =>
        have h : trConst c = some d := h
        unfold trConst at h
        cases c <;> try cases h
        · exact s_non
        · exact s_bl
        · exact s_int
        · exact s_str
      | Name x p => exact name_ok C es h
      | Tuple es k p =>
        obtain ⟨a, q, rfl⟩ := map_ok (show (trAs (trE T ρ n sc) es).map dTup = some d from h)
        exact s_tup (trAs_ok hr q)
      | List es p =>
        obtain ⟨a, q, rfl⟩ := map_ok (show (trAs (trE T ρ n sc) es).map dLst = some d from h)
        exact s_lst (trAs_ok hr q)
      | BinOp a op b p =>
        obtain ⟨x, y, q1, q2, rfl⟩ := bind2_ok (show bind2 (trE T ρ n sc a) (trE T ρ n sc b) (dBin op) = some d from h)
        exact s_bin (hr _ _ q1) (hr _ _ q2)
      | UnaryOp op a p =>
        cases op with
        | USub =>
          obtain ⟨x, q, rfl⟩ := map_ok (show (trE T ρ n sc a).map dNeg = some d from h)
          exact s_neg (hr _ _ q)
        | Not =>
          obtain ⟨x, q, rfl⟩ := map_ok (show (trE T ρ n sc a).map dNt = some d from h)
          exact v_not (hr _ _ q)
        | Invert => cases h
        | UAdd => cases h
      | BoolOp op vs p => exact v_ok hr h
      | IfExp t a b p =>
        obtain ⟨x, y, q1, q2, rfl⟩ := bind2_ok (show bind2 (trT T ρ n sc t) (bind2 (trE T ρ n sc a) (trE T ρ n sc b) Prod.mk) (fun t ab => dIf t ab.1 ab.2) = some d from h)
        obtain ⟨y1, y2, q3, q4, rfl⟩ := bind2_ok q2
        exact s_if (ht _ _ q1) (hr _ _ q3) (hr _ _ q4)
      | Compare a ops bs p =>
        obtain ⟨x, q, rfl⟩ := map_ok (show (trCmpT T ρ (trE T ρ n sc) a ops bs).map dOf = some d from h)
        exact (cmpT_ok C hr q).1
      | Subscript a i p => exact sub_ok (u64 C) hr h
      | Attribute a f p => exact att_ok C hr h
      | Call f args kws p =>
        cases f <;> try cases h
        · exact meth_ok C es hr h
        · exact call_ok C es hr h
      | ListComp elt gens scope p =>
        unfold trE at h
        dsimp only at h
        split at h
        · have okb : BlkOk X.N X.env.scope scope (ownOf T scope) ∧ T.hs (relS scope X.env.scope) = false := by
            unfold trComp at h
            split at h
            · rename_i hb; exact ⟨by rw [C.N, es]; exact blkOk_by (blkT_1 hb), by rw [es]; exact blkT_2 hb⟩
            · cases h
          obtain ⟨di, g, t, el, rfl, ok, i1, i2, g1, g2, t1, e1⟩ := comp_pieces C es hr (fun s H K cl fp => ihE _ _ (ct_blk C okb s H K cl fp) (by subst es; rfl)) (fun s H K cl fp => ihT _ _ (ct_blk C okb s H K cl fp) (by subst es; rfl)) h
          exact (pe_lc C.calm C.nd i1 ok g1 t1 e1 i2).wkn fun σ H Q ⟨ι, e, h, R, k⟩ => comp_core g2 R k
        · cases h
      | DictComp kx vx gens scope p =>
        unfold trE at h
        dsimp only at h
        split at h
        · have okb : BlkOk X.N X.env.scope scope (ownOf T scope) ∧ T.hs (relS scope X.env.scope) = false := by
            unfold trDc at h
            split at h
            · rename_i hb; exact ⟨by rw [C.N, es]; exact blkOk_by (blkT_1 hb), by rw [es]; exact blkT_2 hb⟩
            · cases h
          obtain ⟨di, g, t, dk, dv, rfl, ok, i1, i2, g1, g2, t1, k1, v1⟩ := dc_pieces C es hr (fun s H K cl fp => ihE _ _ (ct_blk C okb s H K cl fp) (by subst es; rfl)) (fun s H K cl fp => ihT _ _ (ct_blk C okb s H K cl fp) (by subst es; rfl)) h
          exact s_dcB C ok i1 i2 g1 g2 t1 k1 v1
        · cases h
      | Dict ks vs p =>
        have h : trDi (trE T ρ n sc) ks vs = some d := h
        unfold trDi at h
        split at h
        · cases h; exact s_df0 C.un.2
        · split at h
          · obtain ⟨y, q, rfl⟩ := map_ok h
            exact s_df1S (u64 C) s_str (hr _ _ q)
          · obtain ⟨x, y, q1, q2, rfl⟩ := bind2_ok h
            exact s_df1 (u64 C) (hr _ _ q1) (hr _ _ q2)
        · cases h
      | JoinedStr es p => exact js_ok hr (show trJs (trE T ρ n sc) es = some d from h)
      | _ => cases h
    · have hr := ihE X sc C es
      have ht := ihT X sc C es
      have dflt : ∀ {e : Expr}, noTest e = true → (trE T ρ n sc e).map tTru = some d → PT X e (rdT X.K d) := fun {e} ht h => by
        obtain ⟨x, q, rfl⟩ := map_ok h
        refine t_truth (hr _ _ q) fun whole => ?_
        cases e <;> first | rfl | cases ht | (rename_i op _ _; cases op <;> first | rfl | cases ht)
      unfold trT at h
      split at h
      · obtain ⟨x, q, rfl⟩ := map_ok h
        exact t_not (ht _ _ q)
      · exact (w_ok ht h).pt
      · exact (cmpT_ok C hr h).2
      · split at h
        · exact dflt (by assumption) h
        · cases h
end Ev
/-! EvO: the text as readings: statements. -/
namespace Ev
open PySem PySem.Spec L2
variable [TheW]

/-- what stands at a place of a parallel store, if it is a plain local on that row -/
def locName (sc : Scope) (n : Nat) (e : Expr) : Option Str := match e with
  | .Name x p => if (sc.names.lookup x == some .local && p.line == n) = true then some x else none
  | _ => none
def rowOf (ts : List Expr) : Nat := (ts.head?.map (·.pos.line)).getD 0
/-- how names = values are stored: none: not said here; some none: one after another -/
def swp (sc : Scope) (ts vs : List Expr) : Option (Option (List Str)) :=
  if ((ts.length == 2 || ts.length == 3) && vs.length == ts.length && vs.all plain) = true then
    (let xs := ts.filterMap (locName sc (rowOf ts))
    if (xs.length == ts.length && xs.eraseDups.length == xs.length) = true then
      (if vs.all (foldedForSure 8) = true then some none else if vs.all (constantsAlone 8) = true then none else some (some xs))
    else some none)
  else if (!(ts.length == 2 || ts.length == 3)) = true then some none else none
theorem swp_ok {sc : Scope} {env : Env} (es : env.scope = sc) (hk : sc.kind = .function) {ts vs : List Expr} {k k2 : Nat} {p p2 : Pos} {r : Option (List Str)} (h : swp sc ts vs = some r) : swappedStores [.Tuple ts k p] (.Tuple vs k2 p2) env = pure r := by
  subst es
  have hb : env.blockKind = .function := by unfold Env.blockKind; rw [hk]; rfl
  have en : (fun (x : Expr) => match x with
    | .Name id pos => if (env.kindOf id == some .local && pos.line == (ts.head?.map (·.pos.line)).getD 0) = true then some id else none
    | _ => none) = locName env.scope (rowOf ts) := by
    funext x
    cases x <;> rfl
  have ep : ∀ {vs : List Expr}, vs.all plain = true → (vs.any fun (x : Expr) => match x with | .Starred .. => true | _ => false) = false := by
    intro vs
    induction vs with
    | nil => intro _; rfl
    | cons v vs ih =>
      intro q
      rw [List.all_cons, Bool.and_eq_true] at q
      rw [List.any_cons, ih q.2]
      cases v <;> first | rfl | cases q.1
  unfold swp at h
  split at h
  · rename_i h1
    rw [Bool.and_eq_true, Bool.and_eq_true] at h1
    obtain ⟨⟨h1, h2⟩, h3⟩ := h1
    have e2 : (vs.length != ts.length) = false := by rw [bne, h2]; rfl
    dsimp only at h
    have e0 : ((!(ts.length == 2 || ts.length == 3)) || vs.length != ts.length || env.blockKind != .function) = false := by rw [h1, e2, hb]; rfl
    generalize exs : ts.filterMap (locName env.scope (rowOf ts)) = xs at h
    have exs' : ts.filterMap (fun (x : Expr) => match x with
      | .Name id pos => if (env.kindOf id == some .local && pos.line == (ts.head?.map (·.pos.line)).getD 0) = true then some id else none
      | _ => none) = xs := by rw [en]; exact exs
    have e3 := ep h3
    have body : swappedStores [.Tuple ts k p] (.Tuple vs k2 p2) env = (if (xs.length != ts.length || xs.eraseDups.length != xs.length) = true then pure none else if vs.all (foldedForSure 8) = true then pure none else if vs.all (constantsAlone 8) = true then (do unsupported "assign.tuple-of-constant-expressions:order-of-the-stores"; pure (some xs)) else pure (some xs)) := by
      refine (if_neg (fun z => Bool.noConfusion (e0.symm.trans z))).trans ?_
      refine (if_neg (fun z => Bool.noConfusion (e3.symm.trans z))).trans ?_
      rw [← exs']
      rfl
    rw [body]
    split at h
    · rename_i g
      rw [Bool.and_eq_true] at g
      rw [if_neg (by rw [bne, bne, g.1, g.2]; decide)]
      split at h
      · rename_i g1
        cases h
        rw [if_pos g1]
      · rename_i g1
        rw [if_neg g1]
        split at h
        · cases h
        · rename_i g2
          cases h
          rw [if_neg g2]
    · rename_i g
      cases h
      refine if_pos ?_
      revert g
      rw [bne, bne]
      cases (xs.length == ts.length) <;> cases (xs.eraseDups.length == xs.length) <;> simp
  · split at h
    · rename_i g
      cases h
      have e0 : ((!(ts.length == 2 || ts.length == 3)) || vs.length != ts.length || env.blockKind != .function) = true := by rw [g]; rfl
      exact if_pos e0
    · cases h

section
variable {X : Cx} {T : Tab} {ρ : Ro} {sc : Scope} {pos : Pos}
/-- what is stored where a name holds a cell -/
def trN (m g ls : Bool) (rc r : Expr → Option Den) (e : Expr) : Option Den := if m = true then (match e with
  | .DictComp kx vx gens scope p => rc (.DictComp kx vx gens scope p)
  | .Call (.Name f pf) [a] [] pc => if (ls && plain a && f == "list") = true then (match r a with
    | some d => some (dNew (nLs d))
    | none => r (.Call (.Name f pf) [a] [] pc)) else r (.Call (.Name f pf) [a] [] pc)
  | .List es _ => (trA r es).map fun d => dNew (nLst d)
  | .BinOp (.List es p1) .Mult b _ => bind2 (r (.List es p1)) (r b) fun x y => dNew (nRep x y)
  | .BinOp a .Add b _ => bind2 (r a) (r b) fun x y => dNew (nAdd x y)
  | .Dict [] [] _ => some (if g = true then dDcG else dDc0)
  | .Dict [some a] [b] _ => bind2 (r a) (r b) dDc1
  | e => r e) else r e
theorem trN_ok {r rc : Expr → Option Den} (hu : X.A.units + 65 < cLine ∧ TheW.w = X.w) (hr : SE X r) (hrc : SE X rc) {m g ls : Bool} (hls : ls = true → X.calm = true ∧ Gl X "list" ∧ X.mg "list" = none) {e : Expr} {d : Den} (h : trN m g ls rc r e = some d) : PE X e (rdE X.K d) := by
  unfold trN at h
  split at h
  · split at h
    · exact hrc _ _ h
    · split at h
      · rename_i z
        rw [Bool.and_eq_true, Bool.and_eq_true] at z
        obtain ⟨⟨z1, z2⟩, z3⟩ := z
        have z3 := eq_of_beq z3
        subst z3
        split at h
        · rename_i q
          cases h
          obtain ⟨c1, c2, c3⟩ := hls z1
          exact s_new (n_ls c1 c2 c3 (hr _ _ q) z2)
        · exact hr _ _ h
      · exact hr _ _ h
    · obtain ⟨a, q, rfl⟩ := map_ok h
      exact s_new (n_lst (trA_ok hr q).1)
    · obtain ⟨x, y, q1, q2, rfl⟩ := bind2_ok h
      exact s_new (n_rep (hr _ _ q1) (hr _ _ q2))
    · obtain ⟨x, y, q1, q2, rfl⟩ := bind2_ok h
      exact s_new (n_add (hr _ _ q1) (hr _ _ q2))
    · cases h
      split
      · exact s_dcG hu.2
      · exact s_dc0 hu.2
    · obtain ⟨x, y, q1, q2, rfl⟩ := bind2_ok h
      exact s_dc1 hu (hr _ _ q1) (hr _ _ q2)
    · exact hr _ d h
  · exact hr e d h
def holdsCell (T : Tab) (t : Expr) : Bool := match t with
  | .Name x _ => T.mt.contains x
  | _ => false
def holdsG (T : Tab) (t : Expr) : Bool := match t with
  | .Name x _ => T.gd.contains x
  | _ => false
def lsOk (T : Tab) (sc : Scope) : Bool := isGl T sc "list" && T.bl.contains "list"
/-- values for targets -/
def trAm (T : Tab) (ls : Bool) (rc r : Expr → Option Den) : List Expr → List Expr → Option DenA
  | [], [] => some aNil
  | t :: ts, e :: es => if plain e = true then bind2 (trN (holdsCell T t) (holdsG T t) ls rc r e) (trAm T ls rc r ts es) aCons else none
  | _, _ => none
theorem lsOk_ok {T : Tab} {ρ : Ro} (C : Ct X T ρ) (es : X.env.scope = sc) : lsOk T sc = true → X.calm = true ∧ Gl X "list" ∧ X.mg "list" = none := fun z => by
  unfold lsOk at z
  rw [Bool.and_eq_true] at z
  exact ⟨C.calm, (isGl_ok (X := X) es z.1).1, C.bl _ (contains_mem z.2)⟩
theorem trAm_ok {r rc : Expr → Option Den} (hu : X.A.units + 65 < cLine ∧ TheW.w = X.w) (hr : SE X r) (hrc : SE X rc) {ls : Bool} (hls : ls = true → X.calm = true ∧ Gl X "list" ∧ X.mg "list" = none) : ∀ {ts es : List Expr} {d : DenA}, trAm T ls rc r ts es = some d → PA X es (rdA X.K d) ∧ es.all plain = true
  | [], [], d, h => by cases h; exact ⟨s_nil, rfl⟩
  | [], _ :: _, d, h => by cases h
  | _ :: _, [], d, h => by cases h
  | t :: ts, e :: es, d, h => by
    unfold trAm at h
    split at h
    · rename_i pl
      obtain ⟨a, b, q1, q2, rfl⟩ := bind2_ok h
      obtain ⟨h1, h2⟩ := trAm_ok hu hr hrc hls q2
      exact ⟨s_cons (trN_ok hu hr hrc hls q1) h1 (star_of pl), by rw [List.all_cons, pl, h2]; rfl⟩
    · cases h

/-! ### targets -/
def isLoc (sc : Scope) (x : Str) : Bool := match sc.names.lookup x with
  | some .local => true
  | some .cell => true
  | _ => false
theorem isLoc_ok {x : Str} (h : isLoc sc x = true) : sc.names.lookup x = some .local ∨ sc.names.lookup x = some .cell := by
  unfold isLoc at h
  split at h
  · left; assumption
  · right; assumption
  · cases h
/-- cells of the def's own names were made at its entry -/
def Sto (X : Cx) : Prop := ∀ x, X.env.scope.names.lookup x = some .cell → X.fn x = true
def trGs (g : Expr → Option DenG) : List Expr → Option DenGs
  | [] => some gNil'
  | t :: ts => if plain t = true then bind2 (g t) (trGs g ts) gCons' else none
def trG (T : Tab) (sc : Scope) (r : Expr → Option Den) : Nat → Expr → Option DenG
  | 0, _ => none
  | n + 1, t => match t with
    | .Name x _ => if isLoc sc x = true then (slotOf T.N x).map gNm else none
    | .Tuple ts _ _ => (trGs (trG T sc r n) ts).map (gTp ts.length)
    | .Subscript o i _ => if noSlice i = true then bind2 (r o) (r i) gSb else none
    | .Attribute o f _ => bind2 (T.at_.lookup f) (r o) fun q d => gAt f q.1 d
    | _ => none
theorem ass_one {t : Expr} {ts : List Expr} {env : Env} (h : plain t = true) : assignEach (t :: ts) env = (false, assign t env) :: assignEach ts env := by
  cases t <;> first | rfl | cases h
theorem gs_ok {g : Expr → Option DenG} (hg : ∀ t d, g t = some d → PG X t (rdG X.K d)) : ∀ {ts : List Expr} {d : DenGs}, trGs g ts = some d → PGs X ts (rdGs X.K d) ∧ (assignEach ts X.env).length = ts.length ∧ (assignEach ts X.env).findIdx? (·.1) = none
  | [], d, h => by cases h; exact ⟨gs_nil, rfl, rfl⟩
  | t :: ts, d, h => by
    unfold trGs at h
    split at h
    · rename_i pl
      obtain ⟨a, b, q1, q2, rfl⟩ := bind2_ok h
      obtain ⟨h1, h2, h3⟩ := gs_ok hg q2
      refine ⟨gs_cons (hg _ _ q1) h1 (by rw [ass_one pl]; rfl), ?_, ?_⟩
      · rw [ass_one pl]
        show (assignEach ts X.env).length + 1 = _
        rw [h2]; rfl
      · rw [ass_one pl, List.findIdx?_cons, h3]; rfl
    · cases h
theorem g_ok (C : Ct X T ρ) (S : Sto X) (es : X.env.scope = sc) {r : Expr → Option Den} (hr : SE X r) : ∀ (n : Nat) (t : Expr) (d : DenG), trG T sc r n t = some d → PG X t (rdG X.K d)
  | 0, t, d, h => by cases h
  | n + 1, t, d, h => by
    cases t <;> try cases h
    · rename_i o f p
      obtain ⟨⟨fl, pr⟩, y, q1, q2, rfl⟩ := bind2_ok (show bind2 (T.at_.lookup f) (r o) (fun q d => gAt f q.1 d) = some d from h)
      exact g_att (C.at_ f fl pr q1).fl (hr _ _ q2) fun v => rfl
    · rename_i o i p
      have h : (if noSlice i = true then bind2 (r o) (r i) gSb else none) = some d := h
      split at h
      · rename_i hn
        obtain ⟨x, y, q1, q2, rfl⟩ := bind2_ok h
        refine g_sub (u64 C) (hr _ _ q1) (hr _ _ q2) fun v => ?_
        cases i <;> first | rfl | cases hn
      · cases h
    · rename_i x p
      have h : (if isLoc sc x = true then (slotOf T.N x).map gNm else none) = some d := h
      split at h
      · rename_i hl
        obtain ⟨i, q, rfl⟩ := map_ok h
        rw [← es] at hl
        refine g_name C.nd (by rw [C.N]; exact slotOf_get q) (isLoc_ok hl) ?_
        rcases isLoc_ok hl with z | z
        · exact .inr z
        · exact .inl (S x z)
      · cases h
    · rename_i ts k p
      obtain ⟨gs, q, rfl⟩ := map_ok (show (trGs (trG T sc r n) ts).map (gTp ts.length) = some d from h)
      obtain ⟨h1, h2, h3⟩ := gs_ok (fun t d h => g_ok C S es hr n t d h) q
      exact g_tup C.calm h1 h2 h3
end
end Ev
/-! EvP: the text as readings: statements, defs. -/
namespace Ev
open PySem PySem.Spec L2 PyProof.Rows
variable [TheW]

def sBad : DenS := fun _ _ => .bad
/-- a block; two statements may be told together -/
def trSs (s : Stmt → Option DenS) (f2 : Stmt → Stmt → Option DenS) : List Stmt → Option DenS
  | [] => some sPass
  | [a] => bind2 (s a) (some sPass) sSeq
  | a :: b :: r => match f2 a b with
    | some d => (trSs s f2 r).map (sSeq d)
    | none => bind2 (s a) (trSs s f2 (b :: r)) sSeq
def isApp (xd xk : Str) (st : Stmt) : Option Expr := match st with
  | .Expr (.Call (.Attribute (.Subscript (.Name a _) (.Name b _) _) m apos) [x] [] cpos) _ => if (a == xd && b == xk && m == "append" && plain x && (apos.endLine == cpos.line)) = true then some x else none
  | _ => none
def splitA (xd xk : Str) : List Stmt → Option (List Stmt × Stmt × Expr × List Stmt)
  | [] => none
  | st :: r => match isApp xd xk st with
    | some x => some ([], st, x, r)
    | none => match splitA xd xk r with
      | some (p, s, x, q) => some (st :: p, s, x, q)
      | none => none
def mapS (s : Stmt → Option DenS) : List Stmt → Option (List DenS)
  | [] => some []
  | a :: r => bind2 (s a) (mapS s r) List.cons
/-- d[k] = [], and a loop that appends to d[k] -/
def trFill (T : Tab) (sc : Scope) (r : Expr → Option Den) (s : Stmt → Option DenS) (ss : List Stmt → Option DenS) (a b : Stmt) : Option DenS := match a with
  | .Assign [.Subscript (.Name xd _) (.Name xk _) _] (.List [] _) _ => if (T.gd.contains xd && isVis sc xd && isVis sc xk) = true then (match b with
    | .For tg it body [] _ => (match splitA xd xk body with
      | some (pre, _, x, post) => bind2 (bind2 (bind2 (slotOf T.N xd) (slotOf T.N xk) Prod.mk) (bind2 (trIt T sc r tg it) (trG T sc r 4 tg) Prod.mk) Prod.mk) (bind2 (mapS s pre) (bind2 (r x) (ss post) Prod.mk) Prod.mk) fun u v => sFill u.1.1 u.1.2 u.2.1 u.2.2 v.1 v.2.1 v.2.2
      | none => none)
    | _ => none) else none
  | _ => none
/-- name = [..] : by the comprehension's own store -/
def swC (sc scope : Scope) (x : Str) (px pc : Pos) : Bool := (match sc.names.lookup x with
  | some .local => true
  | _ => false) && (px.line == pc.line) && !(scope.names.any fun (n, k) => n == x && (k == .local || k == .cell))
def trAsgC (T : Tab) (sc scope : Scope) (d : Option Den) (x : Str) (px pc : Pos) : Option DenS := if swC sc scope x px pc = true then bind2 (slotOf T.N x) d fun i d => sAsg (gNm i) d else none
/-- names = values at once -/
def trPar (T : Tab) (ls : Bool) (rc r : Expr → Option Den) (xs : List Str) (ts vs : List Expr) : Option DenS := match xs, ts, vs with
  | [x, y], [.Name x' px, .Name y' py], [a, b] => if x = x' then if y = y' then bind2 (bind2 (slotOf T.N x) (slotOf T.N y) Prod.mk) (trAm T ls rc r ts vs) fun ij d => sPar [ij.1, ij.2] d else none else none
  | [x, y, z], [.Name x' px, .Name y' py, .Name z' pz], [a, b, c] => if x = x' then if y = y' then if z = z' then bind2 (bind2 (slotOf T.N x) (bind2 (slotOf T.N y) (slotOf T.N z) Prod.mk) Prod.mk) (trAm T ls rc r ts vs) fun ij d => sPar [ij.1, ij.2.1, ij.2.2] d else none else none else none
  | _, _, _ => none
def trAsg (T : Tab) (sc : Scope) (rc r : Expr → Option Den) (tg v : Expr) : Option DenS := match tg with
  | .Name x px => (match v with
    | .ListComp elt gens scope pc => if sc.names.lookup x = some .cell then bind2 (slotOf T.N x) (r v) fun i d => sAsg (gNm i) d else trAsgC T sc scope (r v) x px pc
    | .DictComp kx vx gens scope pc => if sc.names.lookup x = some .cell then bind2 (slotOf T.N x) (if T.mt.contains x = true then rc v else r v) fun i d => sAsg (gNm i) d else trAsgC T sc scope (if T.mt.contains x = true then rc v else r v) x px pc
    | v => if isLoc sc x = true then if nocomp v = true then bind2 (slotOf T.N x) (trN (T.mt.contains x) (T.gd.contains x) (lsOk T sc) rc r v) fun i d => sAsg (gNm i) d else none else none)
  | .Tuple ts k p => (match v with
    | .Tuple vs k2 p2 => (match swp sc ts vs with
      | some (some xs) => trPar T (lsOk T sc) rc r xs ts vs
      | some none => bind2 (trG T sc r 4 tg) ((trAm T (lsOk T sc) rc r ts vs).map dTup) sAsg
      | none => none)
    | v => if nocomp v = true then bind2 (trG T sc r 4 tg) (r v) sAsg else none)
  | .Subscript o i p => if nocomp v = true then bind2 (trG T sc r 4 tg) (r v) sAsg else none
  | .Attribute o f p => bind2 (trG T sc r 4 tg) (r v) sAsg
  | _ => none
section
variable {X : Cx} {T : Tab} {ρ : Ro} {sc : Scope} {pos : Pos} {r : Expr → Option Den}
theorem ss_ok {s : Stmt → Option DenS} {f2 : Stmt → Stmt → Option DenS} (hs : ∀ a d, s a = some d → PS X a (rdS X.K d)) (h2 : ∀ a b d, f2 a b = some d → ∀ {l : List Stmt} {e : DenS}, PSs X l (rdS X.K e) → PSs X (a :: b :: l) (rdS X.K (sSeq d e))) : ∀ {l : List Stmt} {d : DenS}, trSs s f2 l = some d → PSs X l (rdS X.K d)
  | [], d, h => by cases h; exact ss_nil
  | [a], d, h => by
    unfold trSs at h
    obtain ⟨x, y, q1, q2, rfl⟩ := bind2_ok h
    cases q2
    exact ss_cons (hs _ _ q1) ss_nil
  | a :: b :: l, d, h => by
    unfold trSs at h
    split at h
    · rename_i q
      obtain ⟨x, q3, rfl⟩ := Option.map_eq_some_iff.mp h
      exact h2 _ _ _ q (ss_ok hs h2 q3)
    · obtain ⟨x, y, q1, q2, rfl⟩ := bind2_ok h
      exact ss_cons (hs _ _ q1) (ss_ok hs h2 q2)
theorem isApp_ok {xd xk : Str} {st : Stmt} {x : Expr} (h : isApp xd xk st = some x) : ∃ q1 q2 q3 apos cpos q4, st = .Expr (.Call (.Attribute (.Subscript (.Name xd q1) (.Name xk q2) q3) "append" apos) [x] [] cpos) q4 ∧ plain x = true ∧ (apos.endLine == cpos.line) = true := by
  unfold isApp at h
  split at h
  · split at h
    · rename_i z
      rw [Bool.and_eq_true, Bool.and_eq_true, Bool.and_eq_true, Bool.and_eq_true] at z
      obtain ⟨⟨⟨⟨z1, z2⟩, z3⟩, z4⟩, z5⟩ := z
      cases h
      have e1 := eq_of_beq z1
      have e2 := eq_of_beq z2
      have e3 := eq_of_beq z3
      subst e1 e2 e3
      exact ⟨_, _, _, _, _, _, rfl, z4, z5⟩
    · cases h
  · cases h
theorem splitA_ok {xd xk : Str} : ∀ {l p : List Stmt} {s : Stmt} {x : Expr} {q : List Stmt}, splitA xd xk l = some (p, s, x, q) → l = p ++ s :: q ∧ isApp xd xk s = some x
  | [], _, _, _, _, h => by cases h
  | st :: r, p, s, x, q, h => by
    unfold splitA at h
    split at h
    · rename_i z
      cases h
      exact ⟨rfl, z⟩
    · split at h
      · rename_i z
        cases h
        obtain ⟨e1, e2⟩ := splitA_ok z
        exact ⟨by rw [e1]; rfl, e2⟩
      · cases h
theorem mapS_ok {s : Stmt → Option DenS} (hs : ∀ a d, s a = some d → PS X a (rdS X.K d)) : ∀ {l : List Stmt} {ds : List DenS}, mapS s l = some ds → PPre X l ds
  | [], ds, h => by cases h; exact .nil
  | a :: l, ds, h => by
    unfold mapS at h
    obtain ⟨x, y, q1, q2, rfl⟩ := bind2_ok h
    exact .cons (hs _ _ q1) (mapS_ok hs q2)
theorem vis_ok (es : X.env.scope = sc) {x : Str} (h : isVis sc x = true) : Vis X.env.scope x ∧ (x == ("__debug__" : Str)) = false ∧ (x == ("__classdict__" : Str)) = false := by
  subst es
  unfold isVis at h
  rw [Bool.and_eq_true, Bool.not_eq_true'] at h
  obtain ⟨o1, o2, _⟩ := odd_no h.1
  refine ⟨?_, o1, o2⟩
  have z := h.2
  split at z
  · rename_i y; exact .inl y
  · rename_i y; exact .inr (.inl y)
  · rename_i y; exact .inr (.inr y)
  · cases z
theorem slot_ne {N : List Str} (nd : N.Nodup) {x y : Str} {i j : Nat} (q1 : slotOf N x = some i) (q2 : slotOf N y = some j) (h : x ≠ y) : i ≠ j := fun e => by
  subst e
  have h1 := slotOf_get q1
  rw [slotOf_get q2] at h1
  exact h (Option.some.inj h1).symm
theorem swp_loc {ts vs : List Expr} {xs : List Str} (h : swp sc ts vs = some (some xs)) : (∀ x ∈ xs, sc.names.lookup x = some .local) ∧ xs.eraseDups.length = xs.length := by
  unfold swp at h
  split at h
  · dsimp only at h
    split at h
    · rename_i g
      rw [Bool.and_eq_true] at g
      split at h
      · cases h
      · split at h
        · cases h
        · cases h
          refine ⟨fun x hx => ?_, eq_of_beq g.2⟩
          obtain ⟨t, _, e⟩ := List.mem_filterMap.mp hx
          unfold locName at e
          split at e
          · split at e
            · rename_i z
              cases e
              rw [Bool.and_eq_true] at z
              exact eq_of_beq z.1
            · cases e
          · cases e
    · cases h
  · split at h
    · cases h
    · cases h
theorem dups2 {x y : Str} (h : [x, y].eraseDups.length = 2) : x ≠ y := fun e => by
  subst e
  simp [List.eraseDups_cons] at h
theorem dups3 {x y z : Str} (h : [x, y, z].eraseDups.length = 3) : x ≠ y ∧ x ≠ z ∧ y ≠ z := by
  refine ⟨fun e => ?_, fun e => ?_, fun e => ?_⟩
  · subst e
    by_cases w : z = x <;> simp [List.eraseDups_cons, w] at h
  · subst e
    by_cases w : y = x <;> simp [List.eraseDups_cons, w] at h
  · subst e
    by_cases w : y = x <;> simp [List.eraseDups_cons, w] at h
theorem par_ok (C : Ct X T ρ) (es : X.env.scope = sc) (hr : SE X r) {rc : Expr → Option Den} (hrc : SE X rc) {ts vs : List Expr} {xs : List Str} {k k2 : Nat} {p p2 : Pos} {d : DenS} (hw : swp sc ts vs = some (some xs)) (h : trPar T (lsOk T sc) rc r xs ts vs = some d) : PS X (.Assign [.Tuple ts k p] (.Tuple vs k2 p2) pos) (rdS X.K d) := by
  have sw := swp_ok (k := k) (p := p) (k2 := k2) (p2 := p2) es (by rw [← es]; exact C.kd) hw
  obtain ⟨l1, l2⟩ := swp_loc hw
  have hls := lsOk_ok C es
  subst es
  have N := C.N
  unfold trPar at h
  split at h
  · split at h
    · rename_i e1
      split at h
      · rename_i e2
        subst e1 e2
        obtain ⟨ij, da, q1, q2, rfl⟩ := bind2_ok h
        obtain ⟨i, j, q3, q4, rfl⟩ := bind2_ok q1
        rw [← N] at q3 q4
        exact p_par2 C.calm C.nd (slotOf_get q3) (slotOf_get q4) (slot_ne C.nd q3 q4 (dups2 l2)) (l1 _ (by simp)) (l1 _ (by simp)) (trAm_ok (u64 C) hr hrc hls q2).1 sw
      · cases h
    · cases h
  · split at h
    · rename_i e1
      split at h
      · rename_i e2
        split at h
        · rename_i e3
          subst e1 e2 e3
          obtain ⟨ij, da, q1, q2, rfl⟩ := bind2_ok h
          obtain ⟨i, jl, q3, q4, rfl⟩ := bind2_ok q1
          obtain ⟨j, l, q5, q6, rfl⟩ := bind2_ok q4
          rw [← N] at q3 q5 q6
          obtain ⟨n1, n2, n3⟩ := dups3 l2
          exact p_par3 C.calm C.nd (slotOf_get q3) (slotOf_get q5) (slotOf_get q6) (slot_ne C.nd q3 q5 n1) (slot_ne C.nd q3 q6 n2) (slot_ne C.nd q5 q6 n3) (l1 _ (by simp)) (l1 _ (by simp)) (l1 _ (by simp)) (trAm_ok (u64 C) hr hrc hls q2).1 sw
        · cases h
      · cases h
    · cases h
  · cases h
theorem noTupSw {tg v : Expr} {env : Env} (h : ∀ ts k p vs k2 p2, ¬ (tg = .Tuple ts k p ∧ v = .Tuple vs k2 p2)) (h2 : ∀ ts p vs k2 p2, ¬ (tg = .List ts p ∧ v = .Tuple vs k2 p2)) : swappedStores [tg] v env = pure none := by
  unfold swappedStores
  cases tg <;> try rfl
  · cases v <;> try rfl
    exact absurd ⟨rfl, rfl⟩ (h2 _ _ _ _ _)
  · cases v <;> try rfl
    exact absurd ⟨rfl, rfl⟩ (h _ _ _ _ _ _)
theorem asg1 {t : Expr} {env : Env} (h : plain t = true) : (assignEach [t] env).map (·.2) = [assign t env] := by rw [ass_one h]; rfl
theorem p_asgA {a o : Expr} {f : Str} {p : Pos} {g : DenG} {da : Den} (ha : PE X a (rdE X.K da)) (hg : PG X (.Attribute o f p) (rdG X.K g)) : PS X (.Assign [.Attribute o f p] a pos) (rdS X.K (sAsg g da)) :=
  (ps_asg ha hg (by cases a <;> rfl) (noTupSw (fun ts k p vs k2 p2 z => by cases z.1) (fun ts p vs k2 p2 z => by cases z.1)) rfl).wkn fun Z σ H h => asg_rd h
theorem trAsg_ok (C : Ct X T ρ) (S : Sto X) (es : X.env.scope = sc) (hr : SE X r) {rc : Expr → Option Den} (hrc : SE X rc) (hdc : ∀ {b : Bool} {kx vx gens scope pc d x i px}, (if b = true then rc (.DictComp kx vx gens scope pc) else r (.DictComp kx vx gens scope pc)) = some d → swC sc scope x px pc = true → slotOf T.N x = some i → PS X (.Assign [.Name x px] (.DictComp kx vx gens scope pc) pos) (rdS X.K (sAsg (gNm i) d))) (hl : ∀ {elt gens scope pc d x i px}, r (.ListComp elt gens scope pc) = some d → swC sc scope x px pc = true → slotOf T.N x = some i → PS X (.Assign [.Name x px] (.ListComp elt gens scope pc) pos) (rdS X.K (sAsg (gNm i) d)))
    {tg v : Expr} {d : DenS} (h : trAsg T sc rc r tg v = some d) : PS X (.Assign [tg] v pos) (rdS X.K d) := by
  unfold trAsg at h
  split at h
  · split at h
    · split at h
      · rename_i hx
        obtain ⟨i, d, q1, q2, rfl⟩ := bind2_ok h
        rw [← es] at hx
        refine p_setW C.nd (by rw [C.N]; exact slotOf_get q1) (.inr hx) (hr _ _ q2) ?_ (.inl (S _ hx))
        show (pure (X.env.blockKind == .function && X.env.kindOf _ == some .local && _ && _) : Sem Bool) = pure false
        rw [show X.env.kindOf _ = some .cell from hx, show ((some NameKind.cell == some NameKind.local) = false) from rfl, Bool.and_false, Bool.false_and, Bool.false_and]
      · unfold trAsgC at h
        split at h
        · rename_i sw
          obtain ⟨i, d, q1, q2, rfl⟩ := bind2_ok h
          exact hl q2 sw q1
        · cases h
    · split at h
      · rename_i hx
        obtain ⟨i, d, q1, q2, rfl⟩ := bind2_ok h
        rw [← es] at hx
        have q2' : ∀ {b : Bool} {e : Expr}, (if b = true then rc e else r e) = some d → PE X e (rdE X.K d) := fun {b e} z => by
          split at z
          · exact hrc _ _ z
          · exact hr _ _ z
        refine p_setW C.nd (by rw [C.N]; exact slotOf_get q1) (.inr hx) (q2' q2) ?_ (.inl (S _ hx))
        show (pure (X.env.blockKind == .function && X.env.kindOf _ == some .local && _ && _) : Sem Bool) = pure false
        rw [show X.env.kindOf _ = some .cell from hx, show ((some NameKind.cell == some NameKind.local) = false) from rfl, Bool.and_false, Bool.false_and, Bool.false_and]
      · unfold trAsgC at h
        split at h
        · rename_i sw
          obtain ⟨i, d, q1, q2, rfl⟩ := bind2_ok h
          exact hdc q2 sw q1
        · cases h
    · split at h
      · rename_i hx
        split at h
        · rename_i hn
          obtain ⟨i, d, q1, q2, rfl⟩ := bind2_ok h
          rw [← es] at hx
          refine p_set C.nd (by rw [C.N]; exact slotOf_get q1) (isLoc_ok hx) (trN_ok (u64 C) hr hrc (lsOk_ok C (sc := X.env.scope) rfl) (by rw [es]; exact q2)) hn ?_
          rcases isLoc_ok hx with z | z
          · exact .inr z
          · exact .inl (S _ z)
        · cases h
      · cases h
  · split at h
    · split at h
      · rename_i xs sw
        exact par_ok C es hr hrc sw h
      · rename_i sw
        obtain ⟨g, a, q1, q2, rfl⟩ := bind2_ok h
        obtain ⟨da, q3, rfl⟩ := map_ok q2
        exact p_asg (s_tup (trAm_ok (u64 C) hr hrc (lsOk_ok C es) q3).1) (g_ok C S es hr 4 _ _ q1) rfl (swp_ok es (by rw [← es]; exact C.kd) sw) rfl
      · cases h
    · rename_i hv
      split at h
      · rename_i hn
        obtain ⟨g, a, q1, q2, rfl⟩ := bind2_ok h
        exact p_asg (hr _ _ q2) (g_ok C S es hr 4 _ _ q1) hn (noTupSw (fun ts k p vs k2 p2 z => hv _ _ _ z.2) (fun ts p vs k2 p2 z => by cases z.1)) rfl
      · cases h
  · split at h
    · rename_i hn
      obtain ⟨g, a, q1, q2, rfl⟩ := bind2_ok h
      exact p_asg (hr _ _ q2) (g_ok C S es hr 4 _ _ q1) hn (noTupSw (fun ts k p vs k2 p2 z => by cases z.1) (fun ts p vs k2 p2 z => by cases z.1)) rfl
    · cases h
  · obtain ⟨g, a, q1, q2, rfl⟩ := bind2_ok h
    exact p_asgA (hr _ _ q2) (g_ok C S es hr 4 _ _ q1)
  · cases h
/-- name = [..] -/
theorem lc_asg (C : Ct X T ρ) (es : X.env.scope = sc) {n : Nat} {elt : Expr} {gens : List Comprehension} {scope : Scope} {pc px : Pos} {d : Den} {x : Str} {i : Nat} (h : trE T ρ n sc (.ListComp elt gens scope pc) = some d) (sw : swC sc scope x px pc = true) (q : slotOf T.N x = some i) :
    PS X (.Assign [.Name x px] (.ListComp elt gens scope pc) pos) (rdS X.K (sAsg (gNm i) d)) := by
  cases n with
  | zero => cases h
  | succ n =>
  unfold trE at h
  dsimp only at h
  split at h
  · rename_i tg it ifs
    obtain ⟨ihE, ihT⟩ := tr_ok (T := T) (ρ := ρ) n
    have okb : BlkOk X.N X.env.scope scope (ownOf T scope) ∧ T.hs (relS scope X.env.scope) = false := by
      unfold trComp at h
      split at h
      · rename_i hb; exact ⟨by rw [C.N, es]; exact blkOk_by (blkT_1 hb), by rw [es]; exact blkT_2 hb⟩
      · cases h
    obtain ⟨di, g, t, el, rfl, ok, i1, i2, g1, g2, t1, e1⟩ := comp_pieces C es (ihE X sc C es) (fun s H K cl fp => ihE _ _ (ct_blk C okb s H K cl fp) (by subst es; rfl)) (fun s H K cl fp => ihT _ _ (ct_blk C okb s H K cl fp) (by subst es; rfl)) h
    unfold swC at sw
    rw [Bool.and_eq_true, Bool.and_eq_true, Bool.not_eq_true'] at sw
    have hy : X.env.scope.names.lookup x = some .local := by
      rw [es]
      have z := sw.1.1
      split at z
      · assumption
      · cases z
    refine (ps_setLc C.calm C.nd (by rw [C.N]; exact slotOf_get q) hy (sw_true C.kd hy sw.1.2 sw.2) i1 ok g1 t1 e1 i2).wkn fun Z σ H h => ?_
    obtain ⟨ι, e, h, R, k⟩ := h
    refine comp_core g2 R ?_
    refine (KS.bind (RR := Rep X.K) k).imp fun v H1 ⟨d, h1, ι1, x1, R1, r1, k1⟩ => ?_
    unfold gNm at k1
    split at k1
    · exact k1 ι1 _ H1 .refl ⟨R1.rh, R1.re.set r1 i⟩
    · exact k1.elim
  · cases h
end
/-- name = {..} -/
def trDcN (T : Tab) (ρ : Ro) (n : Nat) (sc : Scope) (e : Expr) : Option Den := match e with
  | .DictComp kx vx gens scope _ => (match gens with
    | [⟨tg, it, ifs, 0⟩] => trDc true T sc scope (trE T ρ n sc) (trE T ρ n (relS scope sc)) (trT T ρ n (relS scope sc)) tg it ifs kx vx
    | _ => none)
  | _ => none
section
variable {X : Cx} {T : Tab} {ρ : Ro} {sc : Scope} {pos : Pos}
theorem dcN_se (C : Ct X T ρ) (es : X.env.scope = sc) (n : Nat) : SE X (trDcN T ρ n sc) := fun e d h => by
  unfold trDcN at h
  split at h
  · split at h
    · obtain ⟨ihE, ihT⟩ := tr_ok (T := T) (ρ := ρ) n
      rename_i scope _ _ tg it ifs
      have okb : BlkOk X.N X.env.scope scope (ownOf T scope) ∧ T.hs (relS scope X.env.scope) = false := by
        unfold trDc at h
        split at h
        · rename_i hb; exact ⟨by rw [C.N, es]; exact blkOk_by (blkT_1 hb), by rw [es]; exact blkT_2 hb⟩
        · cases h
      obtain ⟨di, g, t, dk, dv, rfl, ok, i1, i2, g1, g2, t1, k1, v1⟩ := dc_pieces C es (ihE X sc C es) (fun s H K cl fp => ihE _ _ (ct_blk C okb s H K cl fp) (by subst es; rfl)) (fun s H K cl fp => ihT _ _ (ct_blk C okb s H K cl fp) (by subst es; rfl)) h
      exact s_dcB C ok i1 i2 g1 g2 t1 k1 v1
    · cases h
  · cases h
theorem dc_asg (C : Ct X T ρ) (es : X.env.scope = sc) {n m : Nat} {b : Bool} {kx vx : Expr} {gens : List Comprehension} {scope : Scope} {pc px : Pos} {d : Den} {x : Str} {i : Nat} (h : (if b = true then trDcN T ρ m sc (.DictComp kx vx gens scope pc) else trE T ρ n sc (.DictComp kx vx gens scope pc)) = some d) (sw : swC sc scope x px pc = true) (q : slotOf T.N x = some i) :
    PS X (.Assign [.Name x px] (.DictComp kx vx gens scope pc) pos) (rdS X.K (sAsg (gNm i) d)) := by
  have core : ∀ {cell : Bool} {k : Nat} {tg it : Expr} {ifs : List Expr}, gens = [⟨tg, it, ifs, 0⟩] → trDc cell T sc scope (trE T ρ k sc) (trE T ρ k (relS scope sc)) (trT T ρ k (relS scope sc)) tg it ifs kx vx = some d → PS X (.Assign [.Name x px] (.DictComp kx vx gens scope pc) pos) (rdS X.K (sAsg (gNm i) d)) := by
    intro cell k tg it ifs eg h0
    subst eg
    obtain ⟨ihE, ihT⟩ := tr_ok (T := T) (ρ := ρ) k
    have okb : BlkOk X.N X.env.scope scope (ownOf T scope) ∧ T.hs (relS scope X.env.scope) = false := by
      unfold trDc at h0
      split at h0
      · rename_i hb; exact ⟨by rw [C.N, es]; exact blkOk_by (blkT_1 hb), by rw [es]; exact blkT_2 hb⟩
      · cases h0
    obtain ⟨di, g, t, dk, dv, rfl, ok, i1, i2, g1, g2, t1, k1, v1⟩ := dc_pieces C es (ihE X sc C es) (fun s H K cl fp => ihE _ _ (ct_blk C okb s H K cl fp) (by subst es; rfl)) (fun s H K cl fp => ihT _ _ (ct_blk C okb s H K cl fp) (by subst es; rfl)) h0
    unfold swC at sw
    rw [Bool.and_eq_true, Bool.and_eq_true, Bool.not_eq_true'] at sw
    have hy : X.env.scope.names.lookup x = some .local := by
      rw [es]
      have z := sw.1.1
      split at z
      · assumption
      · cases z
    refine (ps_setDcn (u64 C).1 C.calm C.nd (by rw [C.N]; exact slotOf_get q) hy C.kd sw.1.2 sw.2 i1 ok g1 t1 k1 v1 i2).wkn fun Z σ H h => ?_
    obtain ⟨ι, e, h, R, k⟩ := h
    show tDcN X.w X.K _ _ _ _ _ _ σ H _
    rw [← C.un.2]
    refine dcB_core (cell := cell) g2 ⟨ι, e, h, R, ?_⟩
    refine (KS.bind (RR := Rep X.K) k).imp fun v H1 ⟨d, h1, ι1, x1, R1, r1, k1⟩ => ?_
    unfold gNm at k1
    split at k1
    · exact k1 ι1 _ H1 .refl ⟨R1.rh, R1.re.set r1 i⟩
    · exact k1.elim
  split at h
  · unfold trDcN at h
    dsimp only at h
    split at h
    · exact core rfl h
    · cases h
  · cases n with
    | zero => cases h
    | succ n =>
      unfold trE at h
      dsimp only at h
      split at h
      · exact core rfl h
      · cases h
end
def trRet (T : Tab) (sc : Scope) (rc r : Expr → Option Den) (a : Expr) : Option DenS := (trN T.keep false (lsOk T sc) rc r a).map sRet
/-- a block -/
def blk (T : Tab) (ρ : Ro) (sc : Scope) (s : Stmt → Option DenS) : List Stmt → Option DenS := trSs s (trFill T sc (trE T ρ 64 sc) s (trSs s fun _ _ => none))
def isNm : Expr → Bool
  | .Name .. => true
  | _ => false
def trS (T : Tab) (ρ : Ro) (sc : Scope) : Nat → Stmt → Option DenS
  | 0, _ => none
  | n + 1, st => match st with
    | .Expr a _ => if nocomp a = true then (trE T ρ 64 sc a).map sExpr else none
    | .Return none _ => some sRetN
    | .Return (some a) _ => trRet T sc (trDcN T ρ 64 sc) (trE T ρ 64 sc) a
    | .Pass _ => some sPass
    | .Break _ => some sBrk
    | .Continue _ => some sCnt
    | .If c a b _ => bind2 (trT T ρ 64 sc c) (bind2 (blk T ρ sc (trS T ρ sc n) a) (blk T ρ sc (trS T ρ sc n) b) Prod.mk) fun t ab => sIf t ab.1 ab.2
    | .For tg it body [] _ => bind2 (bind2 (trIt T sc (trE T ρ 64 sc) tg it) (trG T sc (trE T ρ 64 sc) 4 tg) Prod.mk) (blk T ρ sc (trS T ρ sc n) body) fun ig b => sFor ig.1 ig.2 b
    | .While c body [] _ => bind2 (trT T ρ 64 sc c) (blk T ρ sc (trS T ρ sc n) body) sWhile
    | .Assign [tg] v _ => trAsg T sc (trDcN T ρ 64 sc) (trE T ρ 64 sc) tg v
    | .AugAssign (.Subscript o k _) op a _ => if isNm k = true then bind2 (augB op) (bind2 (trE T ρ 64 sc o) (bind2 (trE T ρ 64 sc k) (trE T ρ 64 sc a) Prod.mk) Prod.mk) fun f y => sAug f y.1 y.2.1 y.2.2 else none
    | .Raise .. => some sBad
    | _ => none
section
variable {X : Cx} {T : Tab} {ρ : Ro} {sc : Scope}
theorem p_bad {st : Stmt} : PS X st (rdS X.K sBad) := ps_never.wkn fun Z σ H ⟨ι, e, h, R, k⟩ => k
theorem aug_nm {k : Expr} (h : isNm k = true) : ∀ ov iv new, augStore k ov iv new = (do holding [new, ov, iv] (setItem ov iv new); release [new, ov, iv] []; pure .next) := by
  cases k <;> first | (intros; rfl) | cases h
theorem fill_ok (C : Ct X T ρ) (S : Sto X) (es : X.env.scope = sc) (own : PassesOwn (model X.prog X.w) X.A X.env X.xe) {s : Stmt → Option DenS} (hs : ∀ a d, s a = some d → PS X a (rdS X.K d)) {a b : Stmt} {d : DenS} (h : trFill T sc (trE T ρ 64 sc) s (trSs s fun _ _ => none) a b = some d) {l : List Stmt} {e : DenS} (hl : PSs X l (rdS X.K e)) : PSs X (a :: b :: l) (rdS X.K (sSeq d e)) := by
  have hr := (tr_ok (T := T) (ρ := ρ) 64).1 X sc C es
  unfold trFill at h
  split at h
  · split at h
    · rename_i z
      rw [Bool.and_eq_true, Bool.and_eq_true] at z
      obtain ⟨⟨_, z1⟩, z2⟩ := z
      split at h
      · split at h
        · rename_i q
          obtain ⟨e1, e2⟩ := splitA_ok q
          obtain ⟨q1, q2, q3, apos, cpos, q4, e3, pl, ln⟩ := isApp_ok e2
          obtain ⟨u, v, w1, w2, rfl⟩ := bind2_ok h
          obtain ⟨u1, u2, w3, w4, rfl⟩ := bind2_ok w1
          obtain ⟨id, ik, w5, w6, rfl⟩ := bind2_ok w3
          obtain ⟨di, g, w7, w8, rfl⟩ := bind2_ok w4
          obtain ⟨pre, v2, w9, w10, rfl⟩ := bind2_ok w2
          obtain ⟨vx, post, w11, w12, rfl⟩ := bind2_ok w10
          obtain ⟨i1, i2⟩ := it_ok C es hr w7
          obtain ⟨a1, a2, a3⟩ := vis_ok es z1
          obtain ⟨b1, b2, b3⟩ := vis_ok es z2
          subst e1 e3
          exact p_fill (u64 C) own C.calm (by rw [C.N]; exact slotOf_get w5) a1 a2 a3 (by rw [C.N]; exact slotOf_get w6) b1 b2 b3 i1 i2 (g_ok C S es hr 4 _ _ w8) (mapS_ok hs w9) (hr _ _ w11) pl (ss_ok hs (fun _ _ _ z => by cases z) w12) ln hl
        · cases h
      · cases h
    · cases h
  · cases h
theorem blk_ok (C : Ct X T ρ) (S : Sto X) (es : X.env.scope = sc) (own : PassesOwn (model X.prog X.w) X.A X.env X.xe) {s : Stmt → Option DenS} (hs : ∀ a d, s a = some d → PS X a (rdS X.K d)) {l : List Stmt} {d : DenS} (h : blk T ρ sc s l = some d) : PSs X l (rdS X.K d) :=
  ss_ok hs (fun a b d q {l e} hl => fill_ok C S es own hs q hl) h
theorem s_ok (C : Ct X T ρ) (S : Sto X) (es : X.env.scope = sc) : ∀ (n : Nat) (st : Stmt) (d : DenS), trS T ρ sc n st = some d → PS X st (rdS X.K d)
  | 0, st, d, h => by cases h
  | n + 1, st, d, h => by
    have hr := (tr_ok (T := T) (ρ := ρ) 64).1 X sc C es
    have ht := (tr_ok (T := T) (ρ := ρ) 64).2 X sc C es
    have hrc := dcN_se (T := T) (ρ := ρ) C es 64
    have own : PassesOwn (model X.prog X.w) X.A X.env X.xe := C.own
    unfold trS at h
    split at h
    · split at h
      · rename_i hn
        obtain ⟨a, q, rfl⟩ := map_ok h
        exact p_expr (hr _ _ q) hn
      · cases h
    · cases h; exact p_retN
    · unfold trRet at h
      obtain ⟨a, q, rfl⟩ := map_ok h
      exact p_ret (trN_ok (u64 C) hr hrc (lsOk_ok C es) q)
    · cases h; exact p_pass
    · cases h; exact p_brk
    · cases h; exact p_cnt
    · obtain ⟨x, y, q1, q2, rfl⟩ := bind2_ok h
      obtain ⟨y1, y2, q3, q4, rfl⟩ := bind2_ok q2
      exact p_if (ht _ _ q1) (blk_ok C S es own (s_ok C S es n) q3) (blk_ok C S es own (s_ok C S es n) q4)
    · obtain ⟨x, y, q1, q2, rfl⟩ := bind2_ok h
      obtain ⟨x1, x2, q3, q4, rfl⟩ := bind2_ok q1
      obtain ⟨i1, i2⟩ := it_ok C es hr q3
      exact p_for own C.calm i1 (g_ok C S es hr 4 _ _ q4) (blk_ok C S es own (s_ok C S es n) q2) i2
    · obtain ⟨x, y, q1, q2, rfl⟩ := bind2_ok h
      exact p_while own (ht _ _ q1) (blk_ok C S es own (s_ok C S es n) q2)
    · exact trAsg_ok C S es hr hrc (fun h sw q => dc_asg C es h sw q) (fun h sw q => lc_asg C es h sw q) h
    · split at h
      · rename_i hk
        obtain ⟨f, y, q1, q2, rfl⟩ := bind2_ok h
        obtain ⟨y1, y2, q3, q4, rfl⟩ := bind2_ok q2
        obtain ⟨y3, y4, q5, q6, rfl⟩ := bind2_ok q4
        exact p_aug (u64 C) q1 (hr _ _ q3) (hr _ _ q5) (hr _ _ q6) (aug_nm hk)
      · cases h
    · cases h; exact p_bad
    · cases h
end
/-! ### a def -/
/-- what a def does: called with ds -/
def runD (T : Tab) (body : DenS) (ds : List D) (h : Hs) : Res D := if ds.length ≤ T.N.length then fin T.keep h.length (body (ds.map some ++ List.replicate (T.N.length - ds.length) none) h) else .bad
def trDef (T : Tab) (ρ : Ro) (sc : Scope) (body : List Stmt) : Option DenS := blk T ρ sc (trS T ρ sc 32) body
theorem RE.start {K : PySem.W.Frag} {ι : Io} {H : Hp} {N : List Str} {ds : List D} {vs : List V} (r : RepL K ι H ds vs) : RE K ι (ds.map some ++ List.replicate (N.length - ds.length) none) (L2.start N vs) H := by
  unfold L2.start
  rw [r.length]
  refine ⟨by rw [List.length_append, List.length_append, List.length_map, List.length_map, r.length, List.length_replicate, List.length_replicate], fun i d q => ?_⟩
  by_cases hi : i < ds.length
  · rw [List.getElem?_append_left (by rw [List.length_map]; exact hi), List.getElem?_map] at q
    rw [List.getElem?_eq_getElem hi] at q
    cases q
    obtain ⟨v, e, rv⟩ := r.get (List.getElem?_eq_getElem hi)
    exact ⟨v, by rw [List.getElem?_append_left (by rw [List.length_map, ← r.length]; exact hi), List.getElem?_map, e]; rfl, rv⟩
  · rw [List.getElem?_append_right (by rw [List.length_map]; omega), List.getElem?_replicate] at q
    split at q
    · cases q
    · cases q
section
variable {P : Program} {w : World} {K : PySem.W.Frag} {mg : Str → Option Value} {base : Heap} {f : Addr} {fd : FuncData} {x qual : Str} {params : Arguments} {body : List Stmt} {scope : Scope} {dvs : List V} {kws : List (Str × V)}
/-- a def that stands behind the top keeps a promise, where no repr runs -/
theorem funG {N ps : List Str} {k : Nat} {sp : Sp} (F : FunD K x qual params body scope dvs kws f fd) (S : FnScope N ps scope) (len : ∀ vs H Q E, sp vs H Q E → vs.length = ps.length)
    (hb : ∀ (cdv : Value) (A : Around) (outer : List Env) (s : Shared) (H : Hp) (vs : List V) (Q : VK) (E : XK), Room k (A.deeper (envOfC qual scope s.heap.objs.size f cdv)) → A.guards = some [] → sp vs H Q E →
      ∃ t, PSs (cxOf CX0 P w K mg base N qual scope f cdv A outer s H E).nox body t ∧ t { nx := fun _ H' => Q .non H', rt := Q } (L2.start N vs) H) : GFn P w K mg base (k + 1) f fd ps sp := by
  obtain ⟨oc, od, dV, kV, doc, pm, an, cdv, ct, osl, rfl, lk, hcd, _, _⟩ := F.ex
  refine ⟨len, ?_⟩
  intro A outer s H args us vs Q E hr hg e0 bt r hsp
  have old : ∀ b o, base.get? b = some o → s.heap.get? b = some o := fun b o e => (e0.bs b o e).1
  have KX : K.In s.heap := e0.mod.kin.keeps old
  have hk : ∀ y ∈ ps.zip us, scope.names.lookup y.1 = some .local ∨ (scope.names.lookup y.1 = some .cell ∧ ((cellsFrom (s.heap.objs.size + 1) scope.names []).lookup y.1).isSome = true) := by
    rintro ⟨n, v⟩ hy
    rcases S.par n (List.of_mem_zip hy).1 with q | q
    · exact .inl q
    · exact .inr ⟨q, PySem.W.cellsFrom_some _ _ _ (.inl q)⟩
  refine codeAny_call_function hr.depth (KX _ _ lk) rfl S.co S.gen rfl (PySem.W.codeRec_of KX hcd) (bt _ _ _ _ ?_)
  refine wpAny_newFunctionEnv_cells S.kind hk ?_
  intro env he s1 xx
  subst he
  refine ⟨(e0.mod.nolimit.keeps old).keeps xx.toInCall.keep, codeAny_func ?_⟩
  obtain ⟨t, ht, hq⟩ := hb cdv A outer s H vs Q E (hr.deeper _) hg hsp
  have I := inv_start (CX := CX0) (N := N) (E := E) S hr.hd e0 (len _ _ _ _ hsp) r xx
  refine wpAny_mono (ht.nox.run [] s1 (L2.start N vs) H _ I hq) ?_ fun _ _ z => z
  intro fl s' hs
  have out : ∀ {σ' : L2.St} {H' : Hp} {v : V} {u : Value}, Inv (cxOf CX0 P w K mg base N qual scope f cdv A outer s H E) [] σ' H' s' → RelV v u → Q v H' → CE outer P w H s Q u s' :=
    fun {_ H' v _} J rv q => ⟨v, H', J.os, J.bare, J.base, J.hok, rv, q⟩
  cases fl with
  | ret u =>
    obtain ⟨v, σ', H', J, rv, q⟩ := hs
    exact out J rv q
  | next =>
    obtain ⟨σ', H', J, q⟩ := hs
    exact out (v := V.non) (u := Value.none) J rfl q
  | brk => exact hs.choose_spec.choose_spec.2.elim
  | cont => exact hs.choose_spec.choose_spec.2.elim
/-- the facts of the text that a def's reading leans on, at room k -/
structure Env1 (P : Program) (w : World) (K : PySem.W.Frag) (mg : Str → Option Value) (base : Heap) (T : Tab) (ρ : Ro) (k : Nat) : Prop where
  hw : TheW.w = w
  bl : ∀ x ∈ T.bl, mg x = none
  fn : ∀ x i n, T.fn.lookup x = some (i, n) → ∃ f fd ps j, j ≤ k ∧ mg x = some (.ref f) ∧ PySem.W.keepIn K (.ref f) = true ∧ GFn P w K mg base j f fd ps (spR K (ρ i) n) ∧ Binds K fd ps []
  kw : ∀ x ks i pm, (x, ks, i, pm) ∈ T.kw → ∃ f fd ps j, j ≤ k ∧ mg x = some (.ref f) ∧ PySem.W.keepIn K (.ref f) = true ∧ GFn P w K mg base j f fd ps (spR K (ρ i) pm.length) ∧
    ∀ (s : Shared) (us : List Value), K.In s.heap → us.length = ks.length → BindsTo s fd ⟨[], ks.zip us⟩ (ps.zip (permL pm us))
  cn : ∀ x d, T.cn.lookup x = some d → ∃ u v, mg x = some u ∧ RelV v u ∧ ∀ ι H, Rep K ι H d v
  at_ : ∀ f fl pr, T.at_.lookup f = some (fl, pr) → (∀ c ∈ fl, ∃ C, ClsF K c C ∧ NoAttr K C f) ∧ ∀ c r, (c, r) ∈ atR ρ pr → ∃ C p g j, j + 1 ≤ k ∧ ClsF K c C ∧ PropOf K C f p g ∧ GR P w K mg base j g (spA K (ar 1 r))
  me : ∀ m tb, T.me.lookup m = some tb → ∀ c n r, (c, n, r) ∈ meR ρ tb → ∃ C g j, j ≤ k ∧ ClsF K c C ∧ Meth K C m g ∧ GR P w K mg base j g (spA K (ar n r))
  mkr : ∀ c n i st, T.mkr.lookup c = some (n, i, st) → ∃ C g j, j + 1 ≤ k ∧ ClsF K c C ∧ mg c = some (.ref C) ∧ Mk K C g ∧ GR P w K mg base j g (spA K (arB st n (ρ i)))
  cm : ∀ c m n i, (c, m, n, i) ∈ T.cm → ∃ C mc q g j, j ≤ k ∧ ClsF K c C ∧ mg c = some (.ref C) ∧ ClX.CRead K C mc ∧ ClX.CMet K C mc m q g ∧ GR P w K mg base j g (spA K (ar n (ρ i)))
  io : ∀ c cs, T.io.lookup c = some cs → ∃ C, mg c = some (.ref C) ∧ (∀ t : TyD, PySem.W.kitOne K (.type t.name) (.ref C) = some false) ∧
    ∀ c' ∈ cs, ∃ C', ClsF K c' C' ∧ PySem.W.kitOne K (.ref C') (.ref C) = some (c' == c) ∧ ∀ (H : Hp) (a dx : Addr) (fs : List (Str × V)), H a = some (.ins C' dx fs) → TyOf K H (.ref a) (.ref C')
  fv : ∀ x n r, (x, n, r) ∈ fvR ρ T.fv → ∃ fd ps j, j ≤ k ∧ PySem.W.keepIn K (.ref (gaOf K x)) = true ∧ GFn P w K mg base j (gaOf K x) fd ps (spR K r n) ∧ Binds K fd ps []
  hs : ∀ sc, T.hs sc = false
  mek : ∀ m kn pm tb, (m, kn, pm, tb) ∈ T.mek → ∀ c n r, (c, n, r) ∈ meR ρ tb → ∃ C g j, j ≤ k ∧ ClsF K c C ∧ Meth K C m g ∧ GRK P w K mg base j g kn (spA K (arK n pm r))
  mkk : ∀ c kn pm n i, (c, kn, pm, n, i) ∈ T.mkk → ∃ C g j, j + 1 ≤ k ∧ ClsF K c C ∧ mg c = some (.ref C) ∧ Mk K C g ∧ GRK P w K mg base j g kn (spA K (arK n pm (ρ i)))
  sp : ∀ m tb, T.sp.lookup m = some tb → ∀ c n r, (c, n, r) ∈ meR ρ tb → ∃ C g j, j + 2 ≤ k ∧ ClsF K c C ∧ Meth K C m g ∧ GR P w K mg base j g (spA K (ar n r))
  cmk : ∀ c m kn pm n i, (c, m, kn, pm, n, i) ∈ T.cmk → ∃ C mc q g j, j ≤ k ∧ ClsF K c C ∧ mg c = some (.ref C) ∧ ClX.CRead K C mc ∧ ClX.CMet K C mc m q g ∧ GRK P w K mg base j g kn (spA K (arK n pm (ρ i)))
theorem Env1.ct {T : Tab} {ρ : Ro} {k : Nat} {ps : List Str} (E : Env1 P w K mg base T ρ k) (S : FnScope T.N ps scope) (cdv : Value) (A : Around) (outer : List Env) (s : Shared) (H : Hp) (E' : XK) (rm : Room k (A.deeper (envOfC qual scope s.heap.objs.size f cdv))) (hg : A.guards = some []) :
    Ct (cxOf CX0 P w K mg base T.N qual scope f cdv A outer s H E').nox T ρ :=
  ⟨rfl, S.nd, rfl, .never, hg, ⟨by have := rm.un; show (A.deeper _).units + 66 < cLine; omega, E.hw⟩, S.kind, E.bl,
      fun x i n q => let ⟨f, fd, ps, j, hj, m, kp, G, b⟩ := E.fn x i n q; ⟨f, fd, ps, j, m, kp, G, rm.mono hj, b⟩,
      fun x ks i pm q => let ⟨f, fd, ps, j, hj, m, kp, G, b⟩ := E.kw x ks i pm q; ⟨f, fd, ps, j, m, kp, G, rm.mono hj, b⟩, E.cn,
      fun f fl pr q => ⟨(E.at_ f fl pr q).1, fun c r m => let ⟨C, p, g, j, hj, cf, po, G⟩ := (E.at_ f fl pr q).2 c r m; ⟨C, p, g, j, cf, po, G, rm.mono hj⟩⟩,
      fun m tb q c n r mm => let ⟨C, g, j, hj, cf, me, G⟩ := E.me m tb q c n r mm; ⟨C, g, j, cf, me, G, rm.mono hj⟩,
      fun c n i st q => let ⟨C, g, j, hj, cf, mc, M, G⟩ := E.mkr c n i st q; ⟨C, g, j, cf, mc, M, G, rm.mono hj⟩,
      fun c m n i q => let ⟨C, mc, q1, g, j, hj, cf, hm, rd, cm, G⟩ := E.cm c m n i q; ⟨C, mc, q1, g, j, cf, hm, rd, cm, G, rm.mono hj⟩,
      fun c cs q => ⟨E.io c cs q⟩, ⟨fun x n r m => let ⟨fd, ps, j, hj, kp, G, b⟩ := E.fv x n r m; ⟨fd, ps, j, kp, G, rm.mono hj, b⟩⟩, fun z => (by rw [E.hs] at z; cases z), fun m kn pm tb q c n r mm => let ⟨C, g, j, hj, cf, me, G⟩ := E.mek m kn pm tb q c n r mm; ⟨C, g, j, cf, me, G, rm.mono hj⟩, fun c kn pm n i q => ⟨let ⟨C, g, j, hj, cf, mc, M, G⟩ := E.mkk c kn pm n i q; ⟨C, g, j, cf, mc, M, G, rm.mono hj⟩⟩, fun m tb q c n r mm => let ⟨C, g, j, hj, cf, me, G⟩ := E.sp m tb q c n r mm; ⟨C, g, j, cf, me, G, rm.mono hj⟩,
      fun c m kn pm n i q => ⟨let ⟨C, mc, q1, g, j, hj, cf, hm, rd, cm, G⟩ := E.cmk c m kn pm n i q; ⟨C, mc, q1, g, j, cf, hm, rd, cm, G, rm.mono hj⟩⟩⟩
theorem body_ok {T : Tab} {ρ : Ro} {k n : Nat} {ps : List Str} {d : DenS} {r : List D → Hs → Res D} (S : FnScope T.N ps scope) (E : Env1 P w K mg base T ρ k) (h : trDef T ρ scope body = some d) (hr : ∀ ds h, ds.length = n → r ds h = runD T d ds h)
    (cdv : Value) (A : Around) (outer : List Env) (s : Shared) (H : Hp) (vs : List V) (Q : VK) (E' : XK) (rm : Room k (A.deeper (envOfC qual scope s.heap.objs.size f cdv))) (hg : A.guards = some []) (hsp : spR K r n vs H Q E') :
    ∃ t, PSs (cxOf CX0 P w K mg base T.N qual scope f cdv A outer s H E').nox body t ∧ t { nx := fun _ H' => Q .non H', rt := Q } (L2.start T.N vs) H := by
  have C := E.ct S cdv A outer s H E' rm hg
  refine ⟨rdS K d, blk_ok C (fun _ _ => rfl) rfl C.own (s_ok C (fun _ _ => rfl) rfl 32) h, ?_⟩
  obtain ⟨hn, ι, h0, ds, R, rp, kk⟩ := hsp
  have hds : ds.length = n := by rw [rp.length]; exact hn
  rw [hr ds h0 hds] at kk
  unfold runD at kk
  split at kk
  · refine ⟨ι, _, h0, ⟨R, RE.start rp⟩, ?_⟩
    revert kk
    generalize d (ds.map some ++ List.replicate (T.N.length - ds.length) none) h0 = F
    intro kk
    cases F with
    | nx e h' => exact fun ι' σ' H' y R' => finD_ok R R'.rh y .non kk
    | rt dd h' => exact fun ι' H' v y R' rv => finD_ok R R' y rv kk
    | bk _ _ => exact kk.elim
    | ct _ _ => exact kk.elim
    | err _ _ => exact kk.elim
    | bad => exact kk.elim
  · exact kk.elim
theorem KC.after {ι ι1 : Io} {h h1 : Hs} {H H1 : Hp} {r : Res D} {Q : VK} (k : KC K ι h H r Q) (x : Ext ι h H ι1 h1 H1) : KC K ι1 h1 H1 r Q := by
  cases r with
  | ok a h' => exact fun ι' H' b y R rr => k ι' H' b (x.trans y) R rr
  | err _ _ => exact k
  | bad => exact k
/-- a def with a star -/
theorem def_okV {T : Tab} {ρ : Ro} {k n : Nat} {ps : List Str} {pv : Str} {d : DenS} {r : List D → Hs → Res D} {kws : List (Str × V)} (F : FunD K x qual params body scope [] kws f fd) (S : FnScope T.N (ps ++ [pv]) scope) (E : Env1 P w K mg base T ρ k) (hl : ps.length = n) (h : trDef T ρ scope body = some d)
    (hb : ∀ us rest : List Value, us.length = ps.length → bindArgs fd ⟨us ++ rest, []⟩ = (newTuple rest >>= fun t => pure (ps.zip us ++ [(pv, t)])))
    (hr : ∀ ds h, ds.length = n + 1 → r ds h = runD T d ds h) : GR P w K mg base (k + 1) f (spA K (arV n r)) := by
  have G := starG (P := P) (w := w) (mg := mg) (base := base) F S hb (body_ok (r := r) (n := n + 1) S E h hr)
  intro A outer s H us vs Q E' rm hg e0 rv ⟨ι, h0, ds, R, rp, kk⟩
  refine G A outer s H us vs Q E' rm hg e0 rv ?_
  unfold arV at kk
  split at kk
  · rename_i hn
    split at kk
    · rename_i hz
      refine ⟨vs.take n, vs.drop n, (List.take_append_drop n vs).symm, ?_, ?_, fun p hp => ?_⟩
      · rw [List.length_take, ← rp.length, hl]; omega
      · rw [List.length_drop, ← rp.length]; omega
      · have x1 : Ext ι h0 H ι h0 (upd H p (.tup (vs.drop n))) := .new hp
        refine ⟨?_, ι, h0, _, R.new hp, RepL.append ((rp.take n).ext x1) (.cons (.newT R hp (rp.drop n)) .nil), kk.after x1⟩
        rw [List.length_append, List.length_take, ← rp.length]
        show min n ds.length + 1 = n + 1
        omega
    · exact kk.elim
  · exact kk.elim
theorem def_ok {T : Tab} {ρ : Ro} {k n : Nat} {ps : List Str} {d : DenS} {r : List D → Hs → Res D} (F : FunD K x qual params body scope dvs kws f fd) (S : FnScope T.N ps scope) (E : Env1 P w K mg base T ρ k) (hl : ps.length = n) (h : trDef T ρ scope body = some d)
    (hr : ∀ ds h, ds.length = n → r ds h = runD T d ds h) : GFn P w K mg base (k + 1) f fd ps (spR K r n) := by
  refine funG F S (fun vs H Q E h => by rw [hl]; exact h.1) ?_
  intro cdv A outer s H vs Q E' rm hg hsp
  have C := E.ct S cdv A outer s H E' rm hg
  refine ⟨rdS K d, blk_ok C (fun _ _ => rfl) rfl C.own (s_ok C (fun _ _ => rfl) rfl 32) h, ?_⟩
  obtain ⟨hn, ι, h0, ds, R, rp, kk⟩ := hsp
  have hds : ds.length = n := by rw [rp.length]; exact hn
  rw [hr ds h0 hds] at kk
  unfold runD at kk
  split at kk
  · refine ⟨ι, _, h0, ⟨R, RE.start rp⟩, ?_⟩
    revert kk
    generalize d (ds.map some ++ List.replicate (T.N.length - ds.length) none) h0 = F
    intro kk
    cases F with
    | nx e h' => exact fun ι' σ' H' y R' => finD_ok R R'.rh y .non kk
    | rt dd h' => exact fun ι' H' v y R' rv => finD_ok R R' y rv kk
    | bk _ _ => exact kk.elim
    | ct _ _ => exact kk.elim
    | err _ _ => exact kk.elim
    | bad => exact kk.elim
  · exact kk.elim
end
end Ev
/-! EvQ: the end of a law. -/
namespace Ev
open PySem PySem.Spec L2 PyProof.Rows
variable [TheW]

theorem repl_ints {K : PySem.W.Frag} {ι : Io} {H : Hp} : ∀ ns : List Int, RepL K ι H (ns.map D.int) (ns.map V.int)
  | [] => .nil
  | n :: ns => .cons (.int n) (repl_ints ns)
theorem only_true {K : PySem.W.Frag} {ι : Io} {H : Hp} {v : V} (r : Rep K ι H (.bl true) v) : v = .bl true := by cases r; rfl
section
variable {P : Program} {w : World} {K : PySem.W.Frag} {mg mb : Str → Option Value} {k : Nat} {fa a : Addr} {fd : FuncData} {x : Str} {s₁ : Shared} {vs : List Value} {ns : List Int} {ρ : List D → Hs → Res D}
/-- the script in the abstract heap: told only where it is none of the module's own things -/
def scrH (K : PySem.W.Frag) (a : Addr) (ob : Obj) (ns : List Int) : Hp := fun b => if b = a ∧ K.lookup a = none then some (.frz ob (.lst (ns.map V.int))) else none
theorem scrH_eq {ob u b} (q : scrH K a ob ns b = some u) : b = a ∧ K.lookup a = none ∧ u = .frz ob (.lst (ns.map V.int)) := by
  unfold scrH at q
  split at q
  · rename_i z; cases q; exact ⟨z.1, z.2, rfl⟩
  · cases q
theorem lawG (KX : K.In s₁.heap) (hg : s₁.heap.Ns mainGlobals mg) (hb : s₁.heap.Ns builtinsNs mb) (hbb : ∀ y : Str, y ≠ "__name__" → mb y = bootBuiltins y) (hlim : s₁.heap.NoLimit) (hgen : s₁.gens = #[])
    (ha : s₁.heap.get? a = some { cls := .type "list", data := .seq vs.toArray }) (hi : IntsAre vs ns) (hl : ns.length ≤ sizeLine) (hr : Room k callerA)
    (F : ∀ base : Heap, K.In base → base.Ns mainGlobals mg → GFn P w K mg base k fa fd [x] (spR K ρ 1)) (hbind : ∀ (s : Shared) (u : Value), BindsTo s fd ⟨[u], []⟩ [(x, u)])
    (hρ : ∃ h', ρ [.scr (ns.map D.int)] [] = .ok (.bl true) h') :
    codeAny (model P w) callerA (.call (.ref fa) ⟨[.ref a], []⟩) (fun r s' => r = .ok (.ret (.bool true)) ∧ OldK s₁.heap s'.heap ∧ s'.os = s₁.os ∧ AllBare s'.gens) s₁ := by
  let ob : Obj := { cls := .type "list", data := .seq vs.toArray }
  have rv := vals_ints hi
  let H : Hp := scrH K a ob ns
  have hok : HOk P w H s₁.heap := by
    intro b u q
    obtain ⟨rfl, _, rfl⟩ := scrH_eq q
    exact ⟨ha, by rw [List.length_map]; exact hl, vs, _, rv, ha⟩
  have free : ∀ {b : Addr} {o : Obj} {es : Array DictEntry} {ep : Nat}, s₁.heap.get? b = some o → o.data = .dict es ep → H b = none := by
    intro b o es ep e d
    cases q : H b with
    | none => rfl
    | some u =>
      obtain ⟨rfl, _, _⟩ := scrH_eq q
      rw [ha] at e
      cases e
      have d' : Data.seq vs.toArray _ = Data.dict es ep := d
      cases d'
  have ns_ : ∀ {b : Addr} {m : Str → Option Value}, s₁.heap.Ns b m → (hidT s₁.heap H).Ns b m := by
    rintro b m ⟨o, es, ep, e, d, r⟩
    exact ⟨o, es, ep, hidT_get e (free e d), d, r⟩
  have kin : K.In (hidT s₁.heap H) := by
    intro b o e
    refine hidT_get (KX b o e) ?_
    cases q : H b with
    | none => rfl
    | some u =>
      obtain ⟨rfl, z, _⟩ := scrH_eq q
      rw [z] at e; cases e
  have lim : (hidT s₁.heap H).NoLimit := by
    obtain ⟨mc, h1, h2⟩ := hlim
    exact ⟨mc, ns_ h1, h2⟩
  have e0 : Env0 P w K mg (hidT s₁.heap H) callerA [] s₁ H :=
    { frames := rfl, mod := ⟨kin, ns_ hg, ⟨mb, ns_ hb, hbb⟩, lim⟩, bs := fun b o e => of_hidT e, bsz := Nat.le_of_eq (hidT_size _ _), funs := trivial, frf := fun b hb => (by cases hb), hok := hok, bare := .of_eq hgen }
  have fs : FS K ⟨[], []⟩ H a (ns.map V.int) := by
    cases z : K.lookup a with
    | none =>
      refine .inl ⟨.inr ⟨ob, if_pos ⟨rfl, z⟩⟩, fun o => ?_⟩
      rcases o with ⟨n, o⟩ | o
      · cases o
      · cases o
    | some o =>
      have e := KX a o z
      rw [ha] at e
      cases e
      exact .inr (.inr ⟨_, vs.toArray, _, z, rfl, rfl, rfl, by rw [List.size_toArray, hi.length]; exact hl, by simpa using rv⟩)
  have rh : RH K ⟨[], []⟩ [] H := ⟨rfl, fun a m => (by cases m), fun a m => (by cases m), fun n q => (by cases q), fun n o q => (by rcases q with q | q <;> cases q), fun n m a q => (by cases q)⟩
  obtain ⟨hE, hρ⟩ := hρ
  have sp : spR K ρ 1 [.ref a] H (fun v _ => v = .bl true) E0 := by
    refine ⟨rfl, ⟨[], []⟩, [], _, rh, .cons (.scr fs (repl_ints ns)) .nil, ?_⟩
    rw [hρ]
    exact fun ι' H' v _ _ r => only_true r
  refine codeAny_mono ((F _ kin (ns_ hg)).run callerA [] s₁ H ⟨[.ref a], []⟩ [.ref a] [.ref a] _ E0 hr rfl e0 (hbind s₁ (.ref a)) (.cons rfl .nil) sp) ?_
  intro r s' q
  match r, q with
  | .ok (.ret u), ⟨v, H', os, bare, un, hok', rv', qv⟩ =>
    have qv : v = .bl true := qv
    subst qv
    obtain rfl : u = Value.bool true := rv'
    refine ⟨rfl, OldK.of_keep fun b o e => ?_, os, bare⟩
    cases z : H b with
    | none => exact un.keep b o e z (fun y => by cases y) (fun y => by cases y)
    | some u =>
      obtain ⟨rfl, _, rfl⟩ := scrH_eq z
      have z2 := un.frzs b ob _ z
      rw [ha] at e
      cases e
      exact (hok' b _ z2).1
end
omit [TheW] in
/-- the law's walk, by what ρ says for every script of at most n ints of at most 2^20 bits -/
theorem walkG {l : PySem.W.OpenLaw} {n k : Nat} {q : Program} {loose : List Str} {XP : (Str → Option Value) → Heap → Prop} {YP : World → Heap → Prop} {d : DefRec} {x : Str} (hn : l.most = some n) (hn2 : n ≤ sizeLine) (hdf : d.params.defaults = []) (hr : Room k callerA)
    (F : ∀ (w : World) (mg : Str → Option Value) (fa : Addr) (h : Heap), YP w h → h.Ns mainGlobals mg → mg d.name = some (.ref fa) → ∃ (K : PySem.W.Frag) (fd : FuncData) (ρ : List D → Hs → Res D), K.In h ∧ (∀ (s : Shared) (u : Value), BindsTo s fd ⟨[u], []⟩ [(x, u)]) ∧
      (∀ base : Heap, K.In base → base.Ns mainGlobals mg → GFn l.prog w K mg base k fa fd [x] (@spR ⟨w⟩ K ρ 1)) ∧ ∀ ns : List Int, ns.length ≤ n → (∀ z ∈ ns, Builtin.Int.intBits z ≤ 1048576) → ∃ h', ρ [.scr (ns.map D.int)] [] = .ok (.bl true) h') :
    PySem.W.WalkO q loose XP YP l.row.toRowW d [] (fun f vs => PySem.call f vs) := by
  refine Att.attach_callB hn hdf ?_
  intro w s₀ s₁ mg mb fa o pm cd doc a vs ns G Y ho hd hcd hmg hobj hints hlen hbits hg
  obtain ⟨K, fd, ρ, KX, hb, hF, hρ⟩ := F w mg fa _ Y G.T.g hmg
  letI : TheW := ⟨w⟩
  exact lawG KX G.T.g G.T.b G.T.builtins G.T.nolimit hg hobj hints (Nat.le_trans hlen hn2) hr hF hb (hρ ns hlen hbits)

/-! ### the tables of defs, piece by piece -/
section
variable {P : Program} {w : World} {K : PySem.W.Frag} {mg : Str → Option Value} {base : Heap}
def FnE (P : Program) (w : World) (K : PySem.W.Frag) (mg : Str → Option Value) (base : Heap) (k : Nat) (x : Str) (r : List D → Hs → Res D) (n : Nat) : Prop :=
  ∃ f fd ps j, j ≤ k ∧ mg x = some (.ref f) ∧ PySem.W.keepIn K (.ref f) = true ∧ GFn P w K mg base j f fd ps (spR K r n) ∧ Binds K fd ps []
def FnK (P : Program) (w : World) (K : PySem.W.Frag) (mg : Str → Option Value) (base : Heap) (k : Nat) (x : Str) (ks : List Str) (r : List D → Hs → Res D) (pm : List Nat) : Prop :=
  ∃ f fd ps j, j ≤ k ∧ mg x = some (.ref f) ∧ PySem.W.keepIn K (.ref f) = true ∧ GFn P w K mg base j f fd ps (spR K r pm.length) ∧
    ∀ (s : Shared) (us : List Value), K.In s.heap → us.length = ks.length → BindsTo s fd ⟨[], ks.zip us⟩ (ps.zip (permL pm us))
theorem FnE.up {k k' : Nat} {x : Str} {r : List D → Hs → Res D} {n : Nat} (e : FnE P w K mg base k x r n) (h : k ≤ k') : FnE P w K mg base k' x r n := let ⟨f, fd, ps, j, hj, z⟩ := e; ⟨f, fd, ps, j, Nat.le_trans hj h, z⟩
theorem FnK.up {k k' : Nat} {x : Str} {ks : List Str} {r : List D → Hs → Res D} {pm : List Nat} (e : FnK P w K mg base k x ks r pm) (h : k ≤ k') : FnK P w K mg base k' x ks r pm := let ⟨f, fd, ps, j, hj, z⟩ := e; ⟨f, fd, ps, j, Nat.le_trans hj h, z⟩
def FnsOk (P : Program) (w : World) (K : PySem.W.Frag) (mg : Str → Option Value) (base : Heap) (ρ : Ro) (k : Nat) (l : List (Str × Nat × Nat)) : Prop := ∀ x i n, (x, i, n) ∈ l → FnE P w K mg base k x (ρ i) n
def KwsOk (P : Program) (w : World) (K : PySem.W.Frag) (mg : Str → Option Value) (base : Heap) (ρ : Ro) (k : Nat) (l : List (Str × List Str × Nat × List Nat)) : Prop := ∀ x ks i pm, (x, ks, i, pm) ∈ l → FnK P w K mg base k x ks (ρ i) pm
def CnsOk (K : PySem.W.Frag) (mg : Str → Option Value) (l : List (Str × D)) : Prop := ∀ x d, (x, d) ∈ l → ∃ u v, mg x = some u ∧ RelV v u ∧ ∀ ι H, Rep K ι H d v
variable {ρ : Ro} {k : Nat}
theorem fns_nil : FnsOk P w K mg base ρ k [] := fun _ _ _ m => by cases m
theorem fns_cons {x : Str} {i n : Nat} {l : List (Str × Nat × Nat)} (h : FnE P w K mg base k x (ρ i) n) (t : FnsOk P w K mg base ρ k l) : FnsOk P w K mg base ρ k ((x, i, n) :: l) := fun y j m hm => by
  rcases List.mem_cons.mp hm with e | e
  · cases e; exact h
  · exact t y j m e
theorem kws_nil : KwsOk P w K mg base ρ k [] := fun _ _ _ _ m => by cases m
theorem kws_cons {x : Str} {ks : List Str} {i : Nat} {pm : List Nat} {l : List (Str × List Str × Nat × List Nat)} (h : FnK P w K mg base k x ks (ρ i) pm) (t : KwsOk P w K mg base ρ k l) : KwsOk P w K mg base ρ k ((x, ks, i, pm) :: l) := fun y ls j qm hm => by
  rcases List.mem_cons.mp hm with e | e
  · cases e; exact h
  · exact t y ls j qm e
theorem cns_nil : CnsOk K mg [] := fun _ _ m => by cases m
theorem cns_cons {x : Str} {d : D} {l : List (Str × D)} (h : ∃ u v, mg x = some u ∧ RelV v u ∧ ∀ ι H, Rep K ι H d v) (t : CnsOk K mg l) : CnsOk K mg ((x, d) :: l) := fun y c hm => by
  rcases List.mem_cons.mp hm with e | e
  · cases e; exact h
  · exact t y c e
theorem cns_int {x : Str} {i : Int} {l : List (Str × D)} (h : ∃ t, mg x = some (.int i t)) (t : CnsOk K mg l) : CnsOk K mg ((x, .int i) :: l) := cns_cons (let ⟨t, e⟩ := h; ⟨_, .int i, e, ⟨t, rfl⟩, fun _ _ => .int i⟩) t
theorem cns_str {x z : Str} {l : List (Str × D)} (h : ∃ t, mg x = some (.str z t)) (t : CnsOk K mg l) : CnsOk K mg ((x, .str z) :: l) := cns_cons (let ⟨t, e⟩ := h; ⟨_, .str z, e, ⟨t, rfl⟩, fun _ _ => .str z⟩) t
/-! ### classes, piece by piece -/
def FldE (K : PySem.W.Frag) (c f : Str) : Prop := ∃ C, ClsF K c C ∧ NoAttr K C f
def PrpE (P : Program) (w : World) (K : PySem.W.Frag) (mg : Str → Option Value) (base : Heap) (k : Nat) (c f : Str) (r : List D → Hs → Res D) : Prop := ∃ C p g j, j + 1 ≤ k ∧ ClsF K c C ∧ PropOf K C f p g ∧ GR P w K mg base j g (spA K (ar 1 r))
def MetE (P : Program) (w : World) (K : PySem.W.Frag) (mg : Str → Option Value) (base : Heap) (k : Nat) (c m : Str) (n : Nat) (r : List D → Hs → Res D) : Prop := ∃ C g j, j ≤ k ∧ ClsF K c C ∧ Meth K C m g ∧ GR P w K mg base j g (spA K (ar n r))
def MkE (P : Program) (w : World) (K : PySem.W.Frag) (mg : Str → Option Value) (base : Heap) (k : Nat) (c : Str) (r : List D → Hs → Res D) : Prop := ∃ C g j, j + 1 ≤ k ∧ ClsF K c C ∧ mg c = some (.ref C) ∧ Mk K C g ∧ GR P w K mg base j g (spA K r)
def CmE (P : Program) (w : World) (K : PySem.W.Frag) (mg : Str → Option Value) (base : Heap) (k : Nat) (c m : Str) (n : Nat) (r : List D → Hs → Res D) : Prop := ∃ C mc q g j, j ≤ k ∧ ClsF K c C ∧ mg c = some (.ref C) ∧ ClX.CRead K C mc ∧ ClX.CMet K C mc m q g ∧ GR P w K mg base j g (spA K (ar n r))
def IsE (K : PySem.W.Frag) (mg : Str → Option Value) (c : Str) (cs : List Str) : Prop := ∃ C, mg c = some (.ref C) ∧ (∀ t : TyD, PySem.W.kitOne K (.type t.name) (.ref C) = some false) ∧
    ∀ c' ∈ cs, ∃ C', ClsF K c' C' ∧ PySem.W.kitOne K (.ref C') (.ref C) = some (c' == c) ∧ ∀ (H : Hp) (a dx : Addr) (fs : List (Str × V)), H a = some (.ins C' dx fs) → TyOf K H (.ref a) (.ref C')
theorem PrpE.up {k k' : Nat} {c f : Str} {r : List D → Hs → Res D} (e : PrpE P w K mg base k c f r) (h : k ≤ k') : PrpE P w K mg base k' c f r := let ⟨C, p, g, j, hj, z⟩ := e; ⟨C, p, g, j, Nat.le_trans hj h, z⟩
theorem MetE.up {k k' : Nat} {c m : Str} {n : Nat} {r : List D → Hs → Res D} (e : MetE P w K mg base k c m n r) (h : k ≤ k') : MetE P w K mg base k' c m n r := let ⟨C, g, j, hj, z⟩ := e; ⟨C, g, j, Nat.le_trans hj h, z⟩
theorem MkE.up {k k' : Nat} {c : Str} {r : List D → Hs → Res D} (e : MkE P w K mg base k c r) (h : k ≤ k') : MkE P w K mg base k' c r := let ⟨C, g, j, hj, z⟩ := e; ⟨C, g, j, Nat.le_trans hj h, z⟩
theorem CmE.up {k k' : Nat} {c m : Str} {n : Nat} {r : List D → Hs → Res D} (e : CmE P w K mg base k c m n r) (h : k ≤ k') : CmE P w K mg base k' c m n r := let ⟨C, mc, q, g, j, hj, z⟩ := e; ⟨C, mc, q, g, j, Nat.le_trans hj h, z⟩
def FldsOk (K : PySem.W.Frag) (f : Str) (fl : List Str) : Prop := ∀ c ∈ fl, FldE K c f
theorem flds_nil {f : Str} : FldsOk K f [] := fun _ m => by cases m
theorem flds_cons {f c : Str} {fl : List Str} (h : FldE K c f) (t : FldsOk K f fl) : FldsOk K f (c :: fl) := fun x m => by
  rcases List.mem_cons.mp m with e | m
  · subst e; exact h
  · exact t x m
def PrpsOk (P : Program) (w : World) (K : PySem.W.Frag) (mg : Str → Option Value) (base : Heap) (ρ : Ro) (k : Nat) (f : Str) (pr : List (Str × Nat)) : Prop := ∀ c r, (c, r) ∈ atR ρ pr → PrpE P w K mg base k c f r
theorem prps_nil {f : Str} : PrpsOk P w K mg base ρ k f [] := fun _ _ m => by cases m
theorem prps_cons {f c : Str} {i : Nat} {pr : List (Str × Nat)} (h : PrpE P w K mg base k c f (ρ i)) (t : PrpsOk P w K mg base ρ k f pr) : PrpsOk P w K mg base ρ k f ((c, i) :: pr) := fun x r m => by
  rcases List.mem_cons.mp (show (x, r) ∈ (c, ρ i) :: atR ρ pr from m) with e | m
  · cases e; exact h
  · exact t x r m
def AttsOk (P : Program) (w : World) (K : PySem.W.Frag) (mg : Str → Option Value) (base : Heap) (ρ : Ro) (k : Nat) (l : List (Str × List Str × List (Str × Nat))) : Prop := ∀ f fl pr, (f, fl, pr) ∈ l → FldsOk K f fl ∧ PrpsOk P w K mg base ρ k f pr
theorem atts_nil : AttsOk P w K mg base ρ k [] := fun _ _ _ m => by cases m
theorem atts_cons {f : Str} {fl : List Str} {pr : List (Str × Nat)} {l : List (Str × List Str × List (Str × Nat))} (a : FldsOk K f fl) (b : PrpsOk P w K mg base ρ k f pr) (t : AttsOk P w K mg base ρ k l) : AttsOk P w K mg base ρ k ((f, fl, pr) :: l) := fun x y z m => by
  rcases List.mem_cons.mp m with e | m
  · cases e; exact ⟨a, b⟩
  · exact t x y z m
def MetsOk (P : Program) (w : World) (K : PySem.W.Frag) (mg : Str → Option Value) (base : Heap) (ρ : Ro) (k : Nat) (m : Str) (tb : List (Str × Nat × Nat)) : Prop := ∀ c n r, (c, n, r) ∈ meR ρ tb → MetE P w K mg base k c m n r
theorem mets_nil {m : Str} : MetsOk P w K mg base ρ k m [] := fun _ _ _ m => by cases m
theorem mets_cons {m c : Str} {n i : Nat} {tb : List (Str × Nat × Nat)} (h : MetE P w K mg base k c m n (ρ i)) (t : MetsOk P w K mg base ρ k m tb) : MetsOk P w K mg base ρ k m ((c, n, i) :: tb) := fun x y r mm => by
  rcases List.mem_cons.mp (show (x, y, r) ∈ (c, n, ρ i) :: meR ρ tb from mm) with e | m
  · cases e; exact h
  · exact t x y r m
def MesOk (P : Program) (w : World) (K : PySem.W.Frag) (mg : Str → Option Value) (base : Heap) (ρ : Ro) (k : Nat) (l : List (Str × List (Str × Nat × Nat))) : Prop := ∀ m tb, (m, tb) ∈ l → MetsOk P w K mg base ρ k m tb
theorem mes_nil : MesOk P w K mg base ρ k [] := fun _ _ m => by cases m
theorem mes_cons {m : Str} {tb : List (Str × Nat × Nat)} {l : List (Str × List (Str × Nat × Nat))} (a : MetsOk P w K mg base ρ k m tb) (t : MesOk P w K mg base ρ k l) : MesOk P w K mg base ρ k ((m, tb) :: l) := fun x y mm => by
  rcases List.mem_cons.mp mm with e | m
  · cases e; exact a
  · exact t x y m
def MksOk (P : Program) (w : World) (K : PySem.W.Frag) (mg : Str → Option Value) (base : Heap) (ρ : Ro) (k : Nat) (l : List (Str × Nat × Nat × Bool)) : Prop := ∀ c n i st, (c, n, i, st) ∈ l → MkE P w K mg base k c (arB st n (ρ i))
theorem mks_nil : MksOk P w K mg base ρ k [] := fun _ _ _ _ m => by cases m
theorem mks_cons {c : Str} {n i : Nat} {st : Bool} {l : List (Str × Nat × Nat × Bool)} (a : MkE P w K mg base k c (arB st n (ρ i))) (t : MksOk P w K mg base ρ k l) : MksOk P w K mg base ρ k ((c, n, i, st) :: l) := fun x y z u mm => by
  rcases List.mem_cons.mp mm with e | m
  · cases e; exact a
  · exact t x y z u m
def CmsOk (P : Program) (w : World) (K : PySem.W.Frag) (mg : Str → Option Value) (base : Heap) (ρ : Ro) (k : Nat) (l : List (Str × Str × Nat × Nat)) : Prop := ∀ c m n i, (c, m, n, i) ∈ l → CmE P w K mg base k c m n (ρ i)
theorem cms_nil : CmsOk P w K mg base ρ k [] := fun _ _ _ _ m => by cases m
theorem cms_cons {c m : Str} {n i : Nat} {l : List (Str × Str × Nat × Nat)} (a : CmE P w K mg base k c m n (ρ i)) (t : CmsOk P w K mg base ρ k l) : CmsOk P w K mg base ρ k ((c, m, n, i) :: l) := fun x y z u mm => by
  rcases List.mem_cons.mp mm with e | m
  · cases e; exact a
  · exact t x y z u m
def IosOk (K : PySem.W.Frag) (mg : Str → Option Value) (l : List (Str × List Str)) : Prop := ∀ c cs, (c, cs) ∈ l → IsE K mg c cs
theorem ios_nil : IosOk K mg [] := fun _ _ m => by cases m
theorem ios_cons {c : Str} {cs : List Str} {l : List (Str × List Str)} (a : IsE K mg c cs) (t : IosOk K mg l) : IosOk K mg ((c, cs) :: l) := fun x y mm => by
  rcases List.mem_cons.mp mm with e | m
  · cases e; exact a
  · exact t x y m
def FvsOk (P : Program) (w : World) (K : PySem.W.Frag) (mg : Str → Option Value) (base : Heap) (ρ : Ro) (k : Nat) (l : List (Str × Nat × Nat)) : Prop := ∀ x n r, (x, n, r) ∈ fvR ρ l → ∃ fd ps j, j ≤ k ∧ PySem.W.keepIn K (.ref (gaOf K x)) = true ∧ GFn P w K mg base j (gaOf K x) fd ps (spR K r n) ∧ Binds K fd ps []
theorem fvs_nil : FvsOk P w K mg base ρ k [] := fun _ _ _ m => by cases m
theorem fvs_cons {x : Str} {i n : Nat} {l : List (Str × Nat × Nat)} (h : FnE P w K mg base k x (ρ i) n) (g : mg x = some (.ref (He.ga K x))) (t : FvsOk P w K mg base ρ k l) : FvsOk P w K mg base ρ k ((x, n, i) :: l) := fun y m r hm => by
  rcases List.mem_cons.mp hm with e | e
  · cases e
    obtain ⟨f, fd, ps, j, hj, m, kp, G, b⟩ := h
    have ef : f = gaOf K x := by
      rw [g] at m
      cases m
      rfl
    subst ef
    exact ⟨fd, ps, j, hj, kp, G, b⟩
  · exact t y m r e
theorem cns_fnv {x : Str} {l : List (Str × D)} (g : mg x = some (.ref (He.ga K x))) (t : CnsOk K mg l) : CnsOk K mg ((x, .fnv x) :: l) := cns_cons ⟨_, .ref (gaOf K x), g, rfl, fun ι H => .fnv x⟩ t
/-- keywords at methods and classes -/
def MeKE (P : Program) (w : World) (K : PySem.W.Frag) (mg : Str → Option Value) (base : Heap) (k : Nat) (m : Str) (kn : List Str) (pm : List Nat) (c : Str) (n : Nat) (r : List D → Hs → Res D) : Prop := ∃ C g j, j ≤ k ∧ ClsF K c C ∧ Meth K C m g ∧ GRK P w K mg base j g kn (spA K (arK n pm r))
def MkKE (P : Program) (w : World) (K : PySem.W.Frag) (mg : Str → Option Value) (base : Heap) (k : Nat) (c : Str) (kn : List Str) (pm : List Nat) (n : Nat) (r : List D → Hs → Res D) : Prop := ∃ C g j, j + 1 ≤ k ∧ ClsF K c C ∧ mg c = some (.ref C) ∧ Mk K C g ∧ GRK P w K mg base j g kn (spA K (arK n pm r))
def MeksOk (P : Program) (w : World) (K : PySem.W.Frag) (mg : Str → Option Value) (base : Heap) (ρ : Ro) (k : Nat) (l : List (Str × List Str × List Nat × List (Str × Nat × Nat))) : Prop := ∀ m kn pm tb, (m, kn, pm, tb) ∈ l → ∀ c n r, (c, n, r) ∈ meR ρ tb → MeKE P w K mg base k m kn pm c n r
def MkksOk (P : Program) (w : World) (K : PySem.W.Frag) (mg : Str → Option Value) (base : Heap) (ρ : Ro) (k : Nat) (l : List (Str × List Str × List Nat × Nat × Nat)) : Prop := ∀ c kn pm n i, (c, kn, pm, n, i) ∈ l → MkKE P w K mg base k c kn pm n (ρ i)
theorem MeKE.up {j k : Nat} {m c : Str} {kn : List Str} {pm : List Nat} {n : Nat} {r : List D → Hs → Res D} (a : MeKE P w K mg base j m kn pm c n r) (h : j ≤ k) : MeKE P w K mg base k m kn pm c n r := let ⟨C, g, i, hi, x⟩ := a; ⟨C, g, i, Nat.le_trans hi h, x⟩
theorem MkKE.up {j k : Nat} {c : Str} {kn : List Str} {pm : List Nat} {n : Nat} {r : List D → Hs → Res D} (a : MkKE P w K mg base j c kn pm n r) (h : j ≤ k) : MkKE P w K mg base k c kn pm n r := let ⟨C, g, i, hi, x⟩ := a; ⟨C, g, i, Nat.le_trans hi h, x⟩
theorem meks_nil : MeksOk P w K mg base ρ k [] := fun _ _ _ _ m => by cases m
theorem mkks_nil : MkksOk P w K mg base ρ k [] := fun _ _ _ _ _ m => by cases m
theorem meks_cons {m c : Str} {kn : List Str} {pm : List Nat} {n i : Nat} {l : List (Str × List Str × List Nat × List (Str × Nat × Nat))} (a : MeKE P w K mg base k m kn pm c n (ρ i)) (t : MeksOk P w K mg base ρ k l) : MeksOk P w K mg base ρ k ((m, kn, pm, [(c, n, i)]) :: l) := fun x y z u mm => by
  rcases List.mem_cons.mp mm with e | m
  · cases e
    intro c' n' r' m'
    have e : (c', n', r') = (c, n, ρ i) := List.mem_singleton.mp m'
    cases e; exact a
  · exact t x y z u m
theorem mkks_cons {c : Str} {kn : List Str} {pm : List Nat} {n i : Nat} {l : List (Str × List Str × List Nat × Nat × Nat)} (a : MkKE P w K mg base k c kn pm n (ρ i)) (t : MkksOk P w K mg base ρ k l) : MkksOk P w K mg base ρ k ((c, kn, pm, n, i) :: l) := fun x y z u v mm => by
  rcases List.mem_cons.mp mm with e | m
  · cases e; exact a
  · exact t x y z u v m
/-- special methods -/
def SpE (P : Program) (w : World) (K : PySem.W.Frag) (mg : Str → Option Value) (base : Heap) (k : Nat) (m : Str) (c : Str) (n : Nat) (r : List D → Hs → Res D) : Prop := ∃ C g j, j + 2 ≤ k ∧ ClsF K c C ∧ Meth K C m g ∧ GR P w K mg base j g (spA K (ar n r))
def SpsOk (P : Program) (w : World) (K : PySem.W.Frag) (mg : Str → Option Value) (base : Heap) (ρ : Ro) (k : Nat) (l : List (Str × List (Str × Nat × Nat))) : Prop := ∀ m tb, (m, tb) ∈ l → ∀ c n r, (c, n, r) ∈ meR ρ tb → SpE P w K mg base k m c n r
def SptOk (P : Program) (w : World) (K : PySem.W.Frag) (mg : Str → Option Value) (base : Heap) (ρ : Ro) (k : Nat) (m : Str) (tb : List (Str × Nat × Nat)) : Prop := ∀ c n r, (c, n, r) ∈ meR ρ tb → SpE P w K mg base k m c n r
theorem spe_of {j k : Nat} {c m : Str} {n : Nat} {r : List D → Hs → Res D} (a : MetE P w K mg base j c m n r) (h : j + 2 ≤ k) : SpE P w K mg base k m c n r := let ⟨C, g, i, hi, x⟩ := a; ⟨C, g, i, Nat.le_trans (Nat.add_le_add_right hi 2) h, x⟩
theorem sps_nil : SpsOk P w K mg base ρ k [] := fun _ _ m => by cases m
theorem spt_nil {m : Str} : SptOk P w K mg base ρ k m [] := fun _ _ _ m => by cases m
theorem spt_cons {m c : Str} {n i : Nat} {tb : List (Str × Nat × Nat)} (a : ∃ C g j, j + 2 ≤ k ∧ ClsF K c C ∧ Meth K C m g ∧ GR P w K mg base j g (spA K (ar n (ρ i)))) (t : SptOk P w K mg base ρ k m tb) : SptOk P w K mg base ρ k m ((c, n, i) :: tb) := fun x y z mm => by
  rcases List.mem_cons.mp mm with e | m
  · cases e; exact a
  · exact t x y z m
theorem sps_cons {m : Str} {tb : List (Str × Nat × Nat)} {l : List (Str × List (Str × Nat × Nat))} (a : SptOk P w K mg base ρ k m tb) (t : SpsOk P w K mg base ρ k l) : SpsOk P w K mg base ρ k ((m, tb) :: l) := fun x y mm => by
  rcases List.mem_cons.mp mm with e | m
  · cases e; exact a
  · exact t x y m
/-- class methods by names -/
def CmKE (P : Program) (w : World) (K : PySem.W.Frag) (mg : Str → Option Value) (base : Heap) (k : Nat) (c m : Str) (kn : List Str) (pm : List Nat) (n : Nat) (r : List D → Hs → Res D) : Prop := ∃ C mc q g j, j ≤ k ∧ ClsF K c C ∧ mg c = some (.ref C) ∧ ClX.CRead K C mc ∧ ClX.CMet K C mc m q g ∧ GRK P w K mg base j g kn (spA K (arK n pm r))
theorem CmKE.up {j k : Nat} {c m : Str} {kn : List Str} {pm : List Nat} {n : Nat} {r : List D → Hs → Res D} (a : CmKE P w K mg base j c m kn pm n r) (h : j ≤ k) : CmKE P w K mg base k c m kn pm n r := let ⟨C, mc, q, g, i, hi, x⟩ := a; ⟨C, mc, q, g, i, Nat.le_trans hi h, x⟩
def CmksOk (P : Program) (w : World) (K : PySem.W.Frag) (mg : Str → Option Value) (base : Heap) (ρ : Ro) (k : Nat) (l : List (Str × Str × List Str × List Nat × Nat × Nat)) : Prop := ∀ c m kn pm n i, (c, m, kn, pm, n, i) ∈ l → CmKE P w K mg base k c m kn pm n (ρ i)
theorem cmks_nil : CmksOk P w K mg base ρ k [] := fun _ _ _ _ _ _ m => by cases m
theorem cmks_cons {c m : Str} {kn : List Str} {pm : List Nat} {n i : Nat} {l : List (Str × Str × List Str × List Nat × Nat × Nat)} (a : CmKE P w K mg base k c m kn pm n (ρ i)) (t : CmksOk P w K mg base ρ k l) : CmksOk P w K mg base ρ k ((c, m, kn, pm, n, i) :: l) := fun x y z u v w mm => by
  rcases List.mem_cons.mp mm with e | m
  · cases e; exact a
  · exact t x y z u v w m
theorem env1 {T : Tab} (hw : TheW.w = w) (bl : ∀ x ∈ T.bl, mg x = none) (fn : FnsOk P w K mg base ρ k T.fn) (kw : KwsOk P w K mg base ρ k T.kw) (cn : CnsOk K mg T.cn) (at_ : AttsOk P w K mg base ρ k T.at_) (me : MesOk P w K mg base ρ k T.me) (mk : MksOk P w K mg base ρ k T.mkr) (cm : CmsOk P w K mg base ρ k T.cm) (io : IosOk K mg T.io) (fv : FvsOk P w K mg base ρ k T.fv) (hs : ∀ sc, T.hs sc = false := by intro _; rfl) (mek : MeksOk P w K mg base ρ k T.mek := by exact meks_nil) (mkk : MkksOk P w K mg base ρ k T.mkk := by exact mkks_nil) (sp : SpsOk P w K mg base ρ k T.sp := by exact sps_nil) (cmk : CmksOk P w K mg base ρ k T.cmk := by exact cmks_nil) : Env1 P w K mg base T ρ k :=
  ⟨hw, bl, fun x i n q => fn x i n (look_mem q), fun x ks i pm q => kw x ks i pm q, fun x d q => cn x d (look_mem q), fun f fl pr q => at_ f fl pr (look_mem q), fun m tb q => me m tb (look_mem q), fun c n i st q => mk c n i st (look_mem q), fun c m n i q => cm c m n i q, fun c cs q => io c cs (look_mem q), fv, hs, mek, mkk, fun m tb q => sp m tb (look_mem q), cmk⟩
/-! ### classes: what is looked at -/
open He (ga ma ba)
def nmO (o : Obj) : Option Str := match o.data with
  | .cls cd => some cd.name
  | _ => none
def neB (c : Str) (K : PySem.W.Frag) : Bool := match PySem.W.findIn K (.ref (ga K c)) "__ne__" with
  | some (some (.builtin i)) => decide (i = "object.__ne__")
  | _ => false
theorem neB_ok {c : Str} (h : neB c K = true) : PySem.W.findIn K (.ref (ga K c)) "__ne__" = some (some (.builtin "object.__ne__")) := by
  unfold neB at h
  split at h
  · rename_i i e
    rw [e, of_decide_eq_true h]
  · cases h
def clsB (c : Str) (K : PySem.W.Frag) : Bool := decide (nmOf K (ga K c) = some c) && (K.all fun p => !decide (nmO p.2 = some c) || decide (p.1 = ga K c)) && (He.Fa.cls c).ok K && neB c K
theorem nmOf_nmO {C : Addr} {c : Str} (h : nmOf K C = some c) : ∃ o, (C, o) ∈ K ∧ nmO o = some c := by
  unfold nmOf at h
  split at h
  · rename_i cd _ q
    exact ⟨_, He.lookup_mem q, h⟩
  · cases h
theorem clsB_ok {c : Str} (h : clsB c K = true) : ClsF K c (ga K c) := by
  unfold clsB at h
  obtain ⟨h0, h4⟩ := ba h
  obtain ⟨h1, h3⟩ := ba h0
  obtain ⟨h1, h2⟩ := ba h1
  refine ⟨of_decide_eq_true h1, fun C' q => ?_, He.cls_ok h3, neB_ok h4⟩
  obtain ⟨o, m, e⟩ := nmOf_nmO q
  have z := List.all_eq_true.mp h2 _ m
  rw [Bool.or_eq_true, Bool.not_eq_true', decide_eq_false_iff_not, decide_eq_true_eq] at z
  rcases z with z | z
  · exact absurd e z
  · exact z
theorem fldE {c f : Str} (h : clsB c K = true) (n : (He.Fa.noat c f).ok K = true) : FldE K c f := ⟨_, clsB_ok h, He.noat_ok n⟩
/-- the getter of a property -/
def prF (c f : Str) (K : PySem.W.Frag) : Addr := He5.wf K (ga K c) "property" f
def prB (c f : Str) (K : PySem.W.Frag) : Bool := He.eqO (PySem.W.findIn K (.ref (ga K c)) f) (some (some (.ref (ma K (ga K c) f)))) && He.eqO (PySem.W.specialIn K (.ref (ma K (ga K c) f)) "__get__") (some (some (.builtin "property.__get__"))) && decide (PySem.W.takesIn K (.ref (ma K (ga K c) f)) = some true) && (match PySem.W.recIn K (ma K (ga K c) f) "property" with
    | some (.ref _ :: _) => true
    | _ => false)
theorem prB_ok {c f : Str} (h : prB c f K = true) : PropOf K (ga K c) f (ma K (ga K c) f) (prF c f K) := by
  unfold prB at h
  obtain ⟨h1, h4⟩ := ba h
  obtain ⟨h1, h3⟩ := ba h1
  obtain ⟨h1, h2⟩ := ba h1
  refine ⟨He.eqO_ok h1, He.eqO_ok h2, of_decide_eq_true h3, ?_⟩
  unfold prF He5.wf
  split at h4
  · rename_i f r e
    exact ⟨r, by rw [e]⟩
  · cases h4
def cmF (c m : Str) (K : PySem.W.Frag) : Addr := He5.wf K (ga K c) "classmethod" m
def cmB (c m : Str) (K : PySem.W.Frag) : Bool := He5.wrapB K (ga K c) "classmethod" "classmethod.__get__" m && PySem.W.fnIn K (cmF c m K) && PySem.W.readsIn K (ga K c) (.type "type") && He.eqO (PySem.W.specialIn K (.ref (ga K c)) "__getattribute__") (some (some (.builtin "type.__getattribute__")))
theorem cmB_ok {c m : Str} (h : cmB c m K = true) : ClX.CRead K (ga K c) (.type "type") ∧ ClX.CMet K (ga K c) (.type "type") m (ma K (ga K c) m) (cmF c m K) := by
  unfold cmB at h
  obtain ⟨h1, h4⟩ := ba h
  obtain ⟨h1, h3⟩ := ba h1
  obtain ⟨h1, h2⟩ := ba h1
  exact ⟨⟨h3, He.eqO_ok h4⟩, He5.cmet_of h1 h2⟩
def tys : List TyD := [.non, .bl, .int, .str, .tup, .lst, .dct]
def tyB (c : Str) (K : PySem.W.Frag) : Bool := He.eqO (PySem.W.findIn K (.ref (ga K c)) "__class__") (some (some (.builtin "object.__class__"))) && He.eqO (PySem.W.specialIn K (.builtin "object.__class__") "__get__") (some (some (.builtin "getset_descriptor.__get__"))) && decide (PySem.W.takesIn K (.builtin "object.__class__") = some true) && decide (PySem.W.mroIn K (ga K c) (.type "object") = some true)
def isB (c : Str) (cs : List Str) (K : PySem.W.Frag) : Bool := (tys.all fun t => decide (PySem.W.kitOne K (.type t.name) (.ref (ga K c)) = some false)) && cs.all fun c' => clsB c' K && tyB c' K && decide (PySem.W.kitOne K (.ref (ga K c')) (.ref (ga K c)) = some (c' == c))
theorem isB_ok {c : Str} {cs : List Str} (hg : mg c = some (.ref (ga K c))) (h : isB c cs K = true) : IsE K mg c cs := by
  obtain ⟨h1, h2⟩ := ba h
  refine ⟨_, hg, fun t => of_decide_eq_true (List.all_eq_true.mp h1 t (by cases t <;> simp [tys])), fun c' m => ?_⟩
  obtain ⟨h3, h5⟩ := ba (List.all_eq_true.mp h2 c' m)
  obtain ⟨h3, h4⟩ := ba h3
  have cf := clsB_ok h3
  unfold tyB at h4
  obtain ⟨k1, k4⟩ := ba h4
  obtain ⟨k1, k3⟩ := ba k1
  obtain ⟨k1, k2⟩ := ba k1
  exact ⟨_, cf, of_decide_eq_true h5, fun H a dx fs e => .ins e cf.cl (He.eqO_ok k1) (He.eqO_ok k2) (of_decide_eq_true k3) (of_decide_eq_true k4)⟩
/-- a tuple of texts as the module's constant -/
def tupB (x : Str) (zs : List Str) (K : PySem.W.Frag) : Bool := match PySem.W.nsIn K mainGlobals x with
  | some (some (.ref a)) => (match K.lookup a with
    | some ⟨.type t, _, .seq its _, _⟩ => decide (t = "tuple") && decide (its.size ≤ 1000) && He.relAll (zs.map V.str) its.toList
    | _ => false)
  | _ => false
theorem rep_strs {ι : Io} {H : Hp} : ∀ zs : List Str, RepL K ι H (zs.map D.str) (zs.map V.str)
  | [] => .nil
  | y :: ys => .cons (.str y) (rep_strs ys)
theorem cns_tup {h : Heap} {x : Str} {zs : List Str} {l : List (Str × D)} (X : K.In h) (G : h.Ns mainGlobals mg) (c : tupB x zs K = true) (t : CnsOk K mg l) : CnsOk K mg ((x, .tup (zs.map D.str)) :: l) := by
  refine cns_cons ?_ t
  unfold tupB at c
  split at c
  · rename_i a q
    split at c
    · rename_i t _ its _ _ q2
      obtain ⟨c1, c3⟩ := ba c
      obtain ⟨c1, c2⟩ := ba c1
      have et : t = "tuple" := of_decide_eq_true c1
      subst et
      refine ⟨_, .ref a, PySem.W.mg_of X G q, rfl, fun ι H => .tup (.inr (.inr ⟨_, its, _, q2, rfl, rfl, ?_, He.relAll_ok c3⟩)) (rep_strs zs)⟩
      have := of_decide_eq_true c2
      rw [show sizeLine = 16777216 from rfl]; omega
    · cases c
  · cases c
/-! ### the Hook -/
def obsB (fa : List (PySem.W.Frag → Bool)) (fn : List He5.DefA) (K : PySem.W.Frag) : He.AlD := ((fa.all fun f => f K) && fn.all fun d => d.ok K, fn.map fun d => He5.fnA K (d.at_ K))
def SaysB (fa : List (PySem.W.Frag → Bool)) (fn : List He5.DefA) (K : PySem.W.Frag) : Prop := obsB fa fn K = He5.valA fn
def obsBG (n : Nat) (fa : List (PySem.W.Frag → Bool)) (fn : List He5.DefA) (g : Addr → Option Obj) : He.AlD := obsB fa fn (He.frG g (He5.asA g n))
def hookB (n : Nat) (fa : List (PySem.W.Frag → Bool)) (fn : List He5.DefA) : PySem.W.Hook where
  α := He.AlD
  obs := fun s => obsBG n fa fn s.heap.get?
  val := fun _ => He5.valA fn
  says := fun _ h => ∃ K : PySem.W.Frag, K.In h ∧ SaysB fa fn K
  of := fun _ _ e => ⟨_, He.frG_in, e⟩
  keeps := fun _ _ _ ⟨K, hK, c⟩ k => ⟨K, PySem.W.Frag.In.keeps hK k, c⟩
/-- the same by a list of addresses -/
def obsLG (as : List Addr) (fa : List (PySem.W.Frag → Bool)) (fn : List He5.DefA) (g : Addr → Option Obj) : He.AlD := obsB fa fn (He.frG g as)
def hookL (as : List Addr) (fa : List (PySem.W.Frag → Bool)) (fn : List He5.DefA) : PySem.W.Hook where
  α := He.AlD
  obs := fun s => obsLG as fa fn s.heap.get?
  val := fun _ => He5.valA fn
  says := fun _ h => ∃ K : PySem.W.Frag, K.In h ∧ SaysB fa fn K
  of := fun _ _ e => ⟨_, He.frG_in, e⟩
  keeps := fun _ _ _ ⟨K, hK, c⟩ k => ⟨K, PySem.W.Frag.In.keeps hK k, c⟩
omit [TheW] in
theorem obsLG_eq {as : List Addr} {fa : List (PySem.W.Frag → Bool)} {fn : List He5.DefA} {g : Addr → Option Obj} {s : Shared} (h : ∀ a, g a = s.heap.get? a) : obsLG as fa fn g = (hookL as fa fn).obs s := by
  have e : g = s.heap.get? := funext h
  rw [e] <;> rfl
omit [TheW] in
theorem obsBG_eq {n : Nat} {fa : List (PySem.W.Frag → Bool)} {fn : List He5.DefA} {g : Addr → Option Obj} {s : Shared} (h : ∀ a, g a = s.heap.get? a) : obsBG n fa fn g = (hookB n fa fn).obs s := by
  have e : g = s.heap.get? := funext h
  rw [e] <;> rfl
theorem SaysB.fact {fa : List (PySem.W.Frag → Bool)} {fn : List He5.DefA} (c : SaysB fa fn K) (i : Nat) {f : PySem.W.Frag → Bool} (h : fa[i]? = some f := by rfl) : f K = true := by
  have c1 := (ba (show ((fa.all fun f => f K) && fn.all fun d => d.ok K) = true from congrArg (fun z : He.AlD => z.1) c)).1
  exact List.all_eq_true.mp c1 f (List.mem_of_getElem? h)
theorem SaysB.def_ {fa : List (PySem.W.Frag → Bool)} {fn : List He5.DefA} (c : SaysB fa fn K) (i : Nat) {d : He5.DefA} (h : fn[i]? = some d := by rfl) : ∃ fd, L2.FunD K d.name d.qual d.params d.body d.scope (d.dvs K) (d.kws K) (d.at_ K) fd := by
  have c2 := (ba (show ((fa.all fun f => f K) && fn.all fun d => d.ok K) = true from congrArg (fun z : He.AlD => z.1) c)).2
  have e : fn.map (fun d => He5.fnA K (d.at_ K)) = fn.map He5.DefA.val := congrArg (fun z : He.AlD => z.2) c
  have e2 : (fn.map fun d => He5.fnA K (d.at_ K))[i]? = (fn.map He5.DefA.val)[i]? := by rw [e]
  rw [List.getElem?_map, List.getElem?_map, h] at e2
  exact He5.DefA.funD (Option.some.inj e2) (List.all_eq_true.mp c2 d (List.mem_of_getElem? h))
theorem dd_none {dV : Value} (h : DflV K dV []) : dV = .none := by
  rcases h with h | h
  · exact h.2
  · exact absurd rfl h.1
end
end Ev
/-! EvR: what a def answers, told by what holds after. -/
namespace Ev
open PySem PySem.Spec
variable [TheW]

def Res.is {α : Type} (r : Res α) (Q : α → Hs → Prop) : Prop := match r with
  | .ok a h => Q a h
  | _ => False
def Fl.is (f : Fl) (N : En → Hs → Prop) (R : D → Hs → Prop) : Prop := match f with
  | .nx e h => N e h
  | .rt d h => R d h
  | _ => False
section
variable {α β : Type} {a : α} {h : Hs} {Q Q' : α → Hs → Prop} {N N' : En → Hs → Prop} {R R' : D → Hs → Prop} {e : En}
@[simp] theorem res_ok : (Res.ok a h).is Q = Q a h := propext ⟨fun z => z, fun z => z⟩
@[simp] theorem is_bind {r : Res α} {f : α → Hs → Res β} {Q : β → Hs → Prop} : (r.bind f).is Q = r.is (fun a h => (f a h).is Q) := by cases r <;> rfl
@[simp] theorem is_of {o : Option α} : (Res.of o h).is Q = ∃ a, o = some a ∧ Q a h := by
  cases o with
  | none => exact propext ⟨fun z => z.elim, fun ⟨_, z, _⟩ => by cases z⟩
  | some a => exact propext ⟨fun z => ⟨a, rfl, z⟩, fun ⟨_, z, q⟩ => by cases z; exact q⟩
theorem Res.is.mono {r : Res α} (k : r.is Q) (i : ∀ a h, Q a h → Q' a h) : r.is Q' := by
  cases r with
  | ok a h => exact i a h k
  | err _ _ => exact k
  | bad => exact k
theorem Res.is.ex {r : Res α} (k : r.is Q) : ∃ a h, r = .ok a h ∧ Q a h := by
  cases r with
  | ok a h => exact ⟨a, h, rfl, k⟩
  | err _ _ => exact k.elim
  | bad => exact k.elim
theorem Fl.is.mono {f : Fl} (k : f.is N R) (i : ∀ e h, N e h → N' e h) (j : ∀ d h, R d h → R' d h) : f.is N' R' := by
  cases f with
  | nx e h => exact i e h k
  | rt d h => exact j d h k
  | _ => exact k
@[simp] theorem is_nx : (Fl.nx e h).is N R = N e h := propext ⟨fun z => z, fun z => z⟩
@[simp] theorem is_rt {d : D} : (Fl.rt d h).is N R = R d h := propext ⟨fun z => z, fun z => z⟩
@[simp] theorem is_to {r : Res α} {f : α → Hs → Fl} : (r.to f).is N R = r.is (fun a h => (f a h).is N R) := by cases r <;> rfl
@[simp] theorem is_ite {c : Prop} [Decidable c] {r s : Res α} : (if c then r else s).is Q = if c then r.is Q else s.is Q := by split <;> rfl
@[simp] theorem fis_ite {c : Prop} [Decidable c] {r s : Fl} : (if c then r else s).is N R = if c then r.is N R else s.is N R := by split <;> rfl
@[simp] theorem is_bad : (Res.bad : Res α).is Q = False := propext ⟨fun z => z, fun z => z⟩
@[simp] theorem fis_bad : Fl.bad.is N R = False := propext ⟨fun z => z, fun z => z⟩
@[simp] theorem is_seq {s t : DenS} : (sSeq s t e h).is N R = (s e h).is (fun e h => (t e h).is N R) R := by
  unfold sSeq
  cases s e h <;> rfl
@[simp] theorem is_pass : (sPass e h).is N R = N e h := propext ⟨fun z => z, fun z => z⟩
@[simp] theorem is_expr {d : Den} : (sExpr d e h).is N R = (d e h).is fun _ h => N e h := by unfold sExpr; exact is_to
@[simp] theorem is_ret {d : Den} : (sRet d e h).is N R = (d e h).is R := by unfold sRet; exact is_to
@[simp] theorem is_retN : (sRetN e h).is N R = R .non h := propext ⟨fun z => z, fun z => z⟩
@[simp] theorem is_if {t : DenT} {p q : DenS} : (sIf t p q e h).is N R = (t e h).is fun c h => if c = true then (p e h).is N R else (q e h).is N R := by
  unfold sIf
  rw [is_to]
  congr 1
  funext c h
  exact fis_ite
@[simp] theorem is_asg {g : DenG} {d : Den} : (sAsg g d e h).is N R = (d e h).is fun d h => (g d e h).is N := by
  unfold sAsg
  rw [is_to]
  congr 1
  funext c h
  rw [is_to]; rfl
@[simp] theorem is_par {is : List Nat} {d : DenA} : (sPar is d e h).is N R = (d e h).is fun ds h => ds.length = is.length ∧ N (setsE e is ds) h := by
  unfold sPar
  rw [is_to]
  congr 1
  funext c h
  rw [fis_ite]
  by_cases q : c.length = is.length <;> simp [q]
@[simp] theorem is_sbad : (sBad e h).is N R = False := propext ⟨fun z => z, fun z => z⟩
@[simp] theorem dC_is {d : D} {Q : D → Hs → Prop} : (dC d e h).is Q = Q d h := propext ⟨fun z => z, fun z => z⟩
@[simp] theorem dVar_z {d : D} {Q : D → Hs → Prop} : (dVar 0 (some d :: e) h).is Q = Q d h := propext ⟨fun z => z, fun z => z⟩
@[simp] theorem dVar_s {x : Option D} {i : Nat} {Q : D → Hs → Prop} : (dVar (i + 1) (x :: e) h).is Q = (dVar i e h).is Q := propext ⟨fun z => z, fun z => z⟩
@[simp] theorem gNm_is {d : D} {i : Nat} : (gNm i d e h).is N = (i < e.length ∧ N (e.set i (some d)) h) := by
  unfold gNm
  rw [is_ite]
  by_cases q : i < e.length <;> simp [q]
@[simp] theorem aNil_is {Q : List D → Hs → Prop} : (aNil e h).is Q = Q [] h := propext ⟨fun z => z, fun z => z⟩
@[simp] theorem aCons_is {d : Den} {r : DenA} {Q : List D → Hs → Prop} : (aCons d r e h).is Q = (d e h).is fun x h => (r e h).is fun xs h => Q (x :: xs) h := by
  unfold aCons; simp only [is_bind, res_ok]
@[simp] theorem dTup_is {r : DenA} {Q : D → Hs → Prop} : (dTup r e h).is Q = (r e h).is fun xs h => xs.length ≤ sizeLine ∧ Q (.tup xs) h := by
  unfold dTup; rw [is_bind]; congr 1; funext c h; rw [is_ite]; by_cases q : c.length ≤ sizeLine <;> simp [q]
@[simp] theorem dLst_is {r : DenA} {Q : D → Hs → Prop} : (dLst r e h).is Q = (r e h).is fun xs h => xs.length ≤ sizeLine ∧ Q (.lst xs) h := by
  unfold dLst; rw [is_bind]; congr 1; funext c h; rw [is_ite]; by_cases q : c.length ≤ sizeLine <;> simp [q]
@[simp] theorem dBin_is {op : Operator} {x y : Den} {Q : D → Hs → Prop} : (dBin op x y e h).is Q = (x e h).is fun x h => (y e h).is fun y h => (bop op x y h).is Q := by
  unfold dBin; simp only [is_bind]
@[simp] theorem dB1_is {f : F1} {x : Den} {Q : D → Hs → Prop} : (dB1 f x e h).is Q = (x e h).is fun x h => ∃ d, f x h = some d ∧ Q d h := by
  unfold dB1; simp only [is_bind, is_of]
@[simp] theorem dB2_is {f : F2} {x y : Den} {Q : D → Hs → Prop} : (dB2 f x y e h).is Q = (x e h).is fun x h => (y e h).is fun y h => ∃ d, f x y h = some d ∧ Q d h := by
  unfold dB2; simp only [is_bind, is_of]
@[simp] theorem dIx_is {x y : Den} {Q : D → Hs → Prop} : (dIx x y e h).is Q = (x e h).is fun x h => (y e h).is fun y h => ∃ d, ixO x y h = some d ∧ Q d h := by
  unfold dIx; simp only [is_bind, is_of]
@[simp] theorem dCall_is {r : List D → Hs → Res D} {n : Nat} {x : DenA} {Q : D → Hs → Prop} : (dCall r n x e h).is Q = (x e h).is fun ds h => ds.length = n ∧ (r ds h).is Q := by
  unfold dCall; rw [is_bind]; congr 1; funext c h; rw [is_ite]; by_cases q : c.length = n <;> simp [q]
@[simp] theorem dCallK_is {r : List D → Hs → Res D} {n : Nat} {pm : List Nat} {x : DenA} {Q : D → Hs → Prop} : (dCallK r n pm x e h).is Q = (x e h).is fun ds h => ds.length = n ∧ (permL pm ds).length = pm.length ∧ (r (permL pm ds) h).is Q := by
  unfold dCallK; rw [is_bind]; congr 1; funext c h
  by_cases q : c.length = n <;> by_cases p : (permL pm c).length = pm.length <;> simp [p, q]
@[simp] theorem tCm_is {op : CmpOp} {x y : Den} {Q : Bool → Hs → Prop} : (tCm op x y e h).is Q = (x e h).is fun x h => (y e h).is fun y h => ∃ b, cop op x y h = some b ∧ Q b h := by
  unfold tCm cmp2; simp only [is_bind, is_of]
@[simp] theorem tChn_is {o p : CmpOp} {x y z : Den} {Q : Bool → Hs → Prop} : (tChn o p x y z e h).is Q = (x e h).is fun x h => (y e h).is fun y h => ∃ b, cop o x y h = some b ∧ if b = true then (z e h).is fun z h => ∃ c, cop p y z h = some c ∧ Q c h else Q false h := by
  unfold tChn cmp2; simp only [is_bind, is_of, is_ite, res_ok]
@[simp] theorem dOf_is {t : DenT} {Q : D → Hs → Prop} : (dOf t e h).is Q = (t e h).is fun b h => Q (.bl b) h := by
  unfold dOf; simp only [is_bind, res_ok]
@[simp] theorem tTru_is {x : Den} {Q : Bool → Hs → Prop} : (tTru x e h).is Q = (x e h).is fun x h => ∃ b, tru x h = some b ∧ Q b h := by
  unfold tTru; simp only [is_bind, is_of]
@[simp] theorem tNt_is {t : DenT} {Q : Bool → Hs → Prop} : (tNt t e h).is Q = (t e h).is fun b h => Q (!b) h := by
  unfold tNt; simp only [is_bind, res_ok]
@[simp] theorem tAn_is {t u : DenT} {Q : Bool → Hs → Prop} : (tAn t u e h).is Q = (t e h).is fun b h => if b = true then (u e h).is Q else Q false h := by
  unfold tAn; simp only [is_bind, res_ok, is_ite]
@[simp] theorem tOr_is {t u : DenT} {Q : Bool → Hs → Prop} : (tOr' t u e h).is Q = (t e h).is fun b h => if b = true then Q true h else (u e h).is Q := by
  unfold tOr'; simp only [is_bind, res_ok, is_ite]
@[simp] theorem dIf_is {t : DenT} {x y : Den} {Q : D → Hs → Prop} : (dIf t x y e h).is Q = (t e h).is fun b h => if b = true then (x e h).is Q else (y e h).is Q := by
  unfold dIf; simp only [is_bind, is_ite]
theorem dAn_is {x y : Den} {Q : D → Hs → Prop} (z : (x e h).is fun x h => ∃ b, asB x = some b ∧ if b = true then (y e h).is Q else Q (.bl false) h) : (dAn x y e h).is Q := by
  unfold dAn; rw [is_bind]
  refine z.mono fun x h ⟨b, q, k⟩ => ?_
  cases x <;> cases q
  cases b
  · simpa [asB] using k
  · simpa [asB] using k
@[simp] theorem dNt_is {x : Den} {Q : D → Hs → Prop} : (dNt x e h).is Q = (x e h).is fun x h => ∃ b, tru x h = some b ∧ Q (.bl (!b)) h := by
  unfold dNt; rw [is_bind]
  congr 1; funext x h
  cases tru x h <;> simp
/-! operations at known shapes -/
@[simp] theorem add_ii {i j : Int} {Q : D → Hs → Prop} : (bop .Add (.int i) (.int j) h).is Q = Q (.int (i + j)) h := propext ⟨fun z => z, fun z => z⟩
@[simp] theorem sub_ii {i j : Int} {Q : D → Hs → Prop} : (bop .Sub (.int i) (.int j) h).is Q = Q (.int (i - j)) h := propext ⟨fun z => z, fun z => z⟩
@[simp] theorem mul_ii {i j : Int} {Q : D → Hs → Prop} : (bop .Mult (.int i) (.int j) h).is Q = (mulOk i j = true ∧ Q (.int (i * j)) h) := by
  show (if mulOk i j = true then Res.ok (.int (i * j)) h else .bad).is Q = _
  rw [is_ite]; by_cases q : mulOk i j = true <;> simp [q]
@[simp] theorem div_ii {i j : Int} {Q : D → Hs → Prop} : (bop .FloorDiv (.int i) (.int j) h).is Q = (divOk j = true ∧ Q (.int (i / j)) h) := by
  show (if divOk j = true then Res.ok (.int (i / j)) h else .bad).is Q = _
  rw [is_ite]; by_cases q : divOk j = true <;> simp [q]
@[simp] theorem mod_ii {i j : Int} {Q : D → Hs → Prop} : (bop .Mod (.int i) (.int j) h).is Q = (0 < j ∧ Q (.int (i % j)) h) := by
  show (if 0 < j then Res.ok (.int (i % j)) h else .bad).is Q = _
  rw [is_ite]; by_cases q : 0 < j <;> simp [q]
@[simp] theorem pow_ii {i j : Int} {Q : D → Hs → Prop} : (bop .Pow (.int i) (.int j) h).is Q = (powOk i j = true ∧ Q (.int (i ^ j.toNat)) h) := by
  show (if powOk i j = true then Res.ok (.int (i ^ j.toNat)) h else .bad).is Q = _
  rw [is_ite]; by_cases q : powOk i j = true <;> simp [q]
@[simp] theorem add_ss {i j : Str} {Q : D → Hs → Prop} : (bop .Add (.str i) (.str j) h).is Q = (i.length + j.length ≤ sizeLine ∧ Q (.str (i ++ j)) h) := by
  show (if i.length + j.length ≤ sizeLine then Res.ok (.str (i ++ j)) h else .bad).is Q = _
  rw [is_ite]; by_cases q : i.length + j.length ≤ sizeLine <;> simp [q]
@[simp] theorem add_tt {i j : List D} {Q : D → Hs → Prop} : (bop .Add (.tup i) (.tup j) h).is Q = (i.length + j.length ≤ sizeLine ∧ Q (.tup (i ++ j)) h) := by
  show (if i.length + j.length ≤ sizeLine then Res.ok (.tup (i ++ j)) h else .bad).is Q = _
  rw [is_ite]; by_cases q : i.length + j.length ≤ sizeLine <;> simp [q]
@[simp] theorem add_ll {i j : List D} {Q : D → Hs → Prop} : (bop .Add (.lst i) (.lst j) h).is Q = (i.length + j.length ≤ sizeLine ∧ Q (.lst (i ++ j)) h) := by
  show (if i.length + j.length ≤ sizeLine then Res.ok (.lst (i ++ j)) h else .bad).is Q = _
  rw [is_ite]; by_cases q : i.length + j.length ≤ sizeLine <;> simp [q]
@[simp] theorem lt_ii {i j : Int} : cop .Lt (.int i) (.int j) h = some (decide (i < j)) := rfl
@[simp] theorem le_ii {i j : Int} : cop .LtE (.int i) (.int j) h = some (decide (i ≤ j)) := rfl
@[simp] theorem gt_ii {i j : Int} : cop .Gt (.int i) (.int j) h = some (decide (j < i)) := rfl
@[simp] theorem ge_ii {i j : Int} : cop .GtE (.int i) (.int j) h = some (decide (j ≤ i)) := rfl
@[simp] theorem cop_eq {x y : D} : cop .Eq x y h = eqS x y h := rfl
@[simp] theorem cop_ne {x y : D} : cop .NotEq x y h = (eqS x y h).map (!·) := rfl
@[simp] theorem tru_b {b : Bool} : tru (.bl b) h = some b := rfl
@[simp] theorem int_i {i : Int} : fInt (.int i) h = some (.int i) := rfl
@[simp] theorem int_b {b : Bool} : fInt (.bl b) h = some (.int (if b = true then 1 else 0)) := by cases b <;> rfl
@[simp] theorem abs_i {i : Int} : fAbs (.int i) h = some (.int (if i < 0 then -i else i)) := rfl
@[simp] theorem max_ii {i j : Int} : fMax2 (.int i) (.int j) h = some (.int (if j > i then j else i)) := rfl
@[simp] theorem min_ii {i j : Int} : fMin2 (.int i) (.int j) h = some (.int (if j < i then j else i)) := rfl
@[simp] theorem dm_ii {i j : Int} : fDm (.int i) (.int j) h = if 0 < j ∧ j < 1073741824 then some (.tup [.int (i / j), .int (i % j)]) else none := rfl
@[simp] theorem isi_ii {i : Int} : fIsi .int (.int i) h = some (.bl true) := rfl
@[simp] theorem isi_bi {i : Int} : fIsi .bl (.int i) h = some (.bl false) := rfl
@[simp] theorem eq_ii {i j : Int} : eqS (.int i) (.int j) h = some (decide (i = j)) := by
  show some (PyData.eqv (.int i) (.int j)) = _
  congr 1
@[simp] theorem eq_ss {i j : Str} : eqS (.str i) (.str j) h = some (i == j) := rfl
@[simp] theorem eq_ll {i j : List D} : eqS (.lst i) (.lst j) h = eqO (.lst i) (.lst j) h := rfl
@[simp] theorem eq_tt {i j : List D} : eqS (.tup i) (.tup j) h = eqO (.tup i) (.tup j) h := rfl
theorem mulOk_r {i j : Int} (q : j.natAbs < 18446744073709551616) : mulOk i j = true := by unfold mulOk; simp [q]
theorem mulOk_l {i j : Int} (q : i.natAbs < 18446744073709551616) : mulOk i j = true := by unfold mulOk; simp [q]
theorem divOk_lt {j : Int} (p : 0 < j) (q : j < 2 ^ 9000) : divOk j = true := by
  unfold divOk
  have z : j.natAbs ≠ 0 := by omega
  have w : j.natAbs < 2 ^ 9000 := by
    have : ((2 : Int) ^ 9000) = ((2 ^ 9000 : Nat) : Int) := by norm_cast
    rw [this] at q
    omega
  simp [p, (Nat.log2_lt z).mpr w]
/-- a list of ints in a cell -/
def sp3 (a b c : Int) : Cl := .live (.lst [.int a, .int b, .int c])
def Spr (x : Cl) : Prop := ∃ a b c : Int, x = sp3 a b c
end
end Ev
/-! EvS: loops and ends, told by what holds after. -/
namespace Ev
open PySem PySem.Spec
variable [TheW]
section
variable {h : Hs} {e : En} {N : En → Hs → Prop} {R Q : D → Hs → Prop} {g : DenG} {body : DenS}
theorem forL_is (I : List D → En → Hs → Prop) (step : ∀ x xs e h, I (x :: xs) e h → (g x e h).is fun e h => (body e h).is (I xs) R) : ∀ {xs : List D} {e : En} {h : Hs}, I xs e h → (forL g body xs e h).is (I []) R
  | [], _, _, k => k
  | x :: xs, e, h, k => by
    unfold forL
    rw [is_to]
    refine (step x xs e h k).mono fun e h k => ?_
    revert k
    cases q : body e h with
    | nx e h => exact fun k => forL_is I step k
    | rt d h => exact fun k => k
    | bk e h => exact fun k => k.elim
    | ct e h => exact fun k => k.elim
    | err x h => exact fun k => k.elim
    | bad => exact fun k => k.elim
/-- a loop that keeps J, each item one of xs -/
theorem forI_is (J : En → Hs → Prop) {xs : List D} (step : ∀ x ∈ xs, ∀ e h, J e h → (g x e h).is fun e h => (body e h).is J R) {e : En} {h : Hs} (k : J e h) : (forL g body xs e h).is J R := by
  refine (forL_is (fun ys e h => (∀ y ∈ ys, y ∈ xs) ∧ J e h) ?_ ⟨fun y hy => hy, k⟩).mono (fun e h z => z.2) (fun d h z => z)
  intro x ys e h ⟨m, k⟩
  exact (step x (m x (List.mem_cons_self ..)) e h k).mono fun e h k => k.mono (fun e h k => ⟨fun y hy => m y (List.mem_cons_of_mem _ hy), k⟩) fun d h z => z
theorem unlockN {f : Fl} {h₀ : Hs} : (unlockF none h₀ f).is N R = f.is N R := by cases f <;> rfl
theorem for_is {it : DenI} (k : (it e h).is fun s h => s.lk = none ∧ (forL g body s.items e h).is N R) : (sFor it g body e h).is N R := by
  unfold sFor
  rw [is_to]
  refine k.mono fun s h ⟨q, k⟩ => ?_
  rw [q]
  show (unlockF none h (forL g body s.items e h)).is N R
  rw [unlockN]
  exact k
theorem r1_is {a : Den} {Q : Src → Hs → Prop} (k : (a e h).is fun d h => ∃ i, d = .int i ∧ rngOk i = true ∧ Q ⟨rangeL 0 i.toNat, none⟩ h) : (iR1 a e h).is Q := by
  unfold iR1
  rw [is_bind]
  refine k.mono fun d h ⟨i, ed, q, k⟩ => ?_
  subst ed
  show (if rngOk i = true then Res.ok (Src.mk (rangeL 0 i.toNat) none) h else .bad).is Q
  rw [if_pos q]
  exact k
theorem r2_is {a b : Den} {Q : Src → Hs → Prop} (k : (a e h).is fun d h => ∃ i, d = .int i ∧ rngOk i = true ∧ (b e h).is fun d h => ∃ j, d = .int j ∧ rngOk j = true ∧ Q ⟨rangeL i (j - i).toNat, none⟩ h) : (iR2 a b e h).is Q := by
  unfold iR2
  rw [is_bind]
  refine k.mono fun d h ⟨i, ed, q, k⟩ => ?_
  subst ed
  rw [is_bind]
  refine k.mono fun d h ⟨j, ed, q1, k⟩ => ?_
  subst ed
  show (if rngOk i = true then if rngOk j = true then Res.ok (Src.mk (rangeL i (j - i).toNat) none) h else .bad else .bad).is Q
  rw [if_pos q, if_pos q1]
  exact k
theorem val_is {a : Den} {Q : Src → Hs → Prop} (k : (a e h).is fun d h => ∃ s, srcA d h = some s ∧ Q s h) : (iVal a e h).is Q := by
  unfold iVal
  rw [is_bind]
  refine k.mono fun d h ⟨s, q, k⟩ => ?_
  rw [q]
  exact k
theorem range_mem {lo : Int} {n : Nat} {x : D} (m : x ∈ rangeL lo n) : ∃ i : Int, x = .int i ∧ lo ≤ i ∧ i < lo + n := by
  unfold rangeL at m
  obtain ⟨i, hi, rfl⟩ := List.mem_map.mp m
  have := List.mem_range.mp hi
  exact ⟨_, rfl, by omega, by omega⟩
/-- an answer of known form -/
theorem fin_rt {f : Fl} {b : Nat} (k : f.is (fun _ h => ∃ h', frz b h 6 .non = some .non ∧ h.take b = h' ∧ Q .non h') (fun d h => ∃ d', frz b h 6 d = some d' ∧ Q d' (h.take b))) : (fin false b f).is Q := by
  cases f with
  | nx e h =>
    obtain ⟨h', q, e1, k⟩ := k
    subst e1
    show (match frz b h 6 .non with | none => Res.bad | some d' => .ok d' (h.take b)).is Q
    rw [q]
    exact k
  | rt d h =>
    obtain ⟨d', q, k⟩ := k
    show (match frz b h 6 d with | none => Res.bad | some d' => .ok d' (h.take b)).is Q
    rw [q]
    exact k
  | _ => exact k.elim
theorem run_is {T : Tab} {ds : List D} (kp : T.keep = false) (hl : ds.length ≤ T.N.length) (k : (body (ds.map some ++ List.replicate (T.N.length - ds.length) none) h).is (fun _ h' => Q .non (h'.take h.length)) (fun d h' => ∃ d', frz h.length h' 6 d = some d' ∧ Q d' (h'.take h.length))) : (runD T body ds h).is Q := by
  unfold runD
  rw [if_pos hl, kp]
  exact fin_rt (k.mono (fun e h' z => ⟨_, rfl, rfl, z⟩) fun d h z => z)
@[simp] theorem frz_int {b : Nat} {i : Int} : frz b h 6 (.int i) = some (.int i) := rfl
@[simp] theorem frz_bl {b : Nat} {i : Bool} : frz b h 6 (.bl i) = some (.bl i) := rfl
@[simp] theorem frz_str {b : Nat} {i : Str} : frz b h 6 (.str i) = some (.str i) := rfl
@[simp] theorem frz_non {b : Nat} : frz b h 6 .non = some .non := rfl
/-- a comprehension with no lock: each item gives one answer of P -/
theorem compL_is (I : List D → Hs → Prop) (P : D → Prop) {ct : CT} {t : DenT} {el : Den} {e₀ : En} (step : ∀ x xs h, I (x :: xs) h → ∃ e₁, ct.put x e₀ = some e₁ ∧ (t e₁ h).is fun b h => if b = true then (el e₁ h).is fun y h => P y ∧ I xs h else I xs h) :
    ∀ {xs : List D} {h : Hs}, I xs h → (compL ct t el e₀ xs h).is fun ys h => (∀ y ∈ ys, P y) ∧ I [] h
  | [], h, k => ⟨(fun y m => by cases m), k⟩
  | x :: xs, h, k => by
    obtain ⟨e₁, q, k⟩ := step x xs h k
    unfold compL
    rw [q]
    show (Res.bind _ _).is _
    rw [is_bind]
    refine k.mono fun b h k => ?_
    by_cases hb : b = true
    · rw [if_pos hb] at k ⊢
      rw [is_bind]
      refine k.mono fun y h ⟨py, k⟩ => ?_
      rw [is_bind]
      exact (compL_is I P step k).mono fun ys h ⟨ps, k⟩ => ⟨fun z m => by
        rcases List.mem_cons.mp m with e | m
        · subst e; exact py
        · exact ps z m, k⟩
    · rw [if_neg hb] at k ⊢
      exact compL_is I P step k
theorem comp_is {own : List Nat} {it : DenI} {ct : CT} {t : DenT} {el : Den} (k : (it e h).is fun s h => s.lk = none ∧ s.items.length ≤ sizeLine ∧ (compL ct t el (wipeE e own) s.items h).is fun ys h => Q (.lst ys) h) : (dComp own it ct t el e h).is Q := by
  unfold dComp
  rw [is_bind]
  refine k.mono fun s h ⟨q, hl, k⟩ => ?_
  rw [if_pos hl, q]
  show (compR s h (compL ct t el (wipeE e own) s.items h)).is Q
  revert k
  cases compL ct t el (wipeE e own) s.items h with
  | ok ys h' => exact fun k => by show Q (.lst ys) (unlockS s.lk h h'); rw [q]; exact k
  | err _ _ => exact fun k => k.elim
  | bad => exact fun k => k.elim
theorem mapB : ∀ {xs : List D}, (∀ y ∈ xs, y = .bl true) → mapO asB xs = some (List.replicate xs.length true)
  | [], _ => rfl
  | x :: xs, m => by
    have e := m x (List.mem_cons_self ..)
    subst e
    have z := mapB fun y hy => m y (List.mem_cons_of_mem _ hy)
    simp [mapO, asB, z, List.replicate_succ]
theorem all_true {xs : List D} (m : ∀ y ∈ xs, y = .bl true) : fAll (.lst xs) h = some (.bl true) := by
  show (match mapO asB xs with | none => none | some bs => some (D.bl (bs.all id))) = _
  rw [mapB m]
  simp
end
end Ev
/-! EvT: cells and targets, told by what holds after. -/
namespace Ev
open PySem PySem.Spec L2
variable [TheW]
section
variable {h : Hs} {e : En} {N : En → Hs → Prop} {R Q : D → Hs → Prop} {g : DenG} {body : DenS}
@[simp] theorem gSb_is {o i : Den} {d : D} : (gSb o i d e h).is N = (o e h).is fun x h => (i e h).is fun k h => ∃ h', setO x k d h = some h' ∧ N e h' := by
  unfold gSb
  simp only [is_bind]
  congr 1; funext x h
  congr 1; funext k h
  cases setO x k d h <;> simp
@[simp] theorem gTp_is {k : Nat} {gs : DenGs} {xs : List D} (q : xs.length = k) : (gTp k gs (.tup xs) e h).is N = (gs xs e h).is N := by
  subst q
  show (if xs.length = xs.length then gs xs e h else .bad).is N = _
  rw [if_pos rfl]
@[simp] theorem gCons_is {g : DenG} {gs : DenGs} {d : D} {ds : List D} : (gCons' g gs (d :: ds) e h).is N = (g d e h).is fun e h => (gs ds e h).is N := by
  show ((g d e h).bind _).is N = _
  rw [is_bind]
@[simp] theorem gNil_is : (gNil' [] e h).is N = N e h := propext ⟨fun z => z, fun z => z⟩
theorem set_ref {n : Nat} {xs : List D} {i : Int} {j : Nat} {d : D} (q : h[n]? = some (.live (.lst xs))) (hj : ixN xs.length i = some j) (u : d.und n = true) : setO (.ref n) (.int i) d h = some (h.set n (.live (.lst (xs.set j d)))) := by
  have e : dlvAt h (.ref n) = none := by unfold dlvAt; simp only [q]
  unfold setO
  rw [e]
  unfold setL liveAt
  simp [q, hj, u]
theorem ix_ref {n : Nat} {xs : List D} {i : Int} {d : D} (q : h[n]? = some (.live (.lst xs))) (hj : atI xs i = some d) : ixO (.ref n) (.int i) h = some d := by
  show ((lstAt h n).bind fun xs => atI xs i) = _
  unfold lstAt
  simp [q, hj]
/-- one statement; what comes after it is kept away -/
theorem st {s t : DenS} (z : ∀ k : En → Hs → Prop, (∀ e h, (t e h).is N R → k e h) → (s e h).is k R) : (sSeq s t e h).is N R := by
  rw [is_seq]
  exact z _ fun _ _ k => k
theorem run_keep {T : Tab} {ds : List D} (kp : T.keep = true) (hl : ds.length ≤ T.N.length) (k : (body (ds.map some ++ List.replicate (T.N.length - ds.length) none) h).is (fun _ _ => False) (fun d h' => ∃ m xs ys, liveAt h' d = some (m, xs) ∧ h.length ≤ m ∧ mapO (frz h.length h' 6) xs = some ys ∧ Q (.ref h.length) (h'.take h.length ++ [.live (.lst ys)]))) : (runD T body ds h).is Q := by
  unfold runD
  rw [if_pos hl, kp]
  revert k
  cases body (ds.map some ++ List.replicate (T.N.length - ds.length) none) h with
  | rt d h' =>
    rintro ⟨m, xs, ys, q1, q2, q3, k⟩
    show (finD true h.length d h').is Q
    unfold finD
    rw [if_pos rfl, q1]
    dsimp only
    rw [if_neg (by omega), q3]
    exact k
  | nx _ _ => exact fun k => k.elim
  | bk _ _ => exact fun k => k.elim
  | ct _ _ => exact fun k => k.elim
  | err _ _ => exact fun k => k.elim
  | bad => exact fun k => k.elim
theorem dSl_is {a : Den} {lo hi : DenO} : (dSl a lo hi e h).is Q = (a e h).is fun x h => (lo e h).is fun l h => (hi e h).is fun u h => ∃ d, slO x l u h = some d ∧ Q d h := by
  unfold dSl; simp only [is_bind, is_of]
theorem tYs_is {Q : Bool → Hs → Prop} : (tYs e h).is Q = Q true h := propext ⟨fun z => z, fun z => z⟩
theorem oNo_is {Q : Option Int → Hs → Prop} : (oNo e h).is Q = Q none h := propext ⟨fun z => z, fun z => z⟩
theorem oC_is {i : Int} {Q : Option Int → Hs → Prop} : (oSome (dC (.int i)) e h).is Q = Q (some i) h := propext ⟨fun z => z, fun z => z⟩
theorem dNew_is {a : DenA} : (dNew a e h).is Q = (a e h).is fun xs h => D.undAll h.length xs = true ∧ Q (.ref h.length) (h ++ [.live (.lst xs)]) := by
  unfold dNew; rw [is_bind]; congr 1; funext c h; rw [is_ite]; by_cases q : D.undAll h.length c = true <;> simp [q]
theorem nLst_is {a : DenA} {Q : List D → Hs → Prop} : (nLst a e h).is Q = (a e h).is fun xs h => xs.length ≤ sizeLine ∧ Q xs h := by
  unfold nLst; rw [is_bind]; congr 1; funext c h; rw [is_ite]; by_cases q : c.length ≤ sizeLine <;> simp [q]
theorem cut_mem {xs : List D} {lo hi : Option Int} {d : D} (m : d ∈ cutD xs lo hi) : d ∈ xs := List.mem_of_mem_drop (List.mem_of_mem_take m)
theorem cut_len {xs : List D} {lo hi : Option Int} : (cutD xs lo hi).length ≤ xs.length := by
  unfold cutD
  rw [List.length_take, List.length_drop]
  omega
/-! eq and repr -/
theorem eqO_same {x : D} {c : PyData} (q : dat h x = some c) (k : SeqAt.shaped c = true) : eqO x x h = some true := by
  unfold eqO
  rw [q]
  dsimp only
  rw [if_pos k, if_pos k, SeqAt.eqv_refl c (SeqAt.canLay_of_shaped k)]
theorem repr_of {x : D} {c : PyData} (q : dat h x = some c) (s : c.showable = true) (hd : c.hasDict = false) (dp : c.depth ≤ 64) (l : c.leavesShort 600 = true) (wt : c.weight ≤ 20000) : fRepr x h = some (.str c.shown) := by
  unfold fRepr
  rw [q]
  show shw c = _
  unfold shw
  have := PyData.shown_le 600 (by decide) c l
  rw [if_pos s, if_pos hd, if_pos dp, if_pos (by rw [show sizeLine = 16777216 from rfl]; omega)]
theorem int_short {i : Int} (k : i.natAbs < 10 ^ 500) : (PyData.int i).leavesShort 600 = true ∧ (PyData.int i).showable = true := by
  have e := int_text_length_le10 (k := 500) (by decide) k
  constructor
  · have : (PyData.shown (.int i)).length ≤ 600 := by
      show (Str.ofString (toString i)).length ≤ 600
      rw [ofString_length]
      omega
    simpa only [PyData.leavesShort, decide_eq_true_eq] using this
  · show decide (i.natAbs.log2 < 1920) = true
    by_cases z : i.natAbs = 0
    · rw [z]; decide
    · refine decide_eq_true ((Nat.log2_lt z).mpr (Nat.lt_of_lt_of_le k ?_))
      decide +kernel
theorem dats_ints (f : Nat → Option PyData) : ∀ is : List Int, D.datAll f (is.map D.int) = some (is.map PyData.int)
  | [] => rfl
  | i :: is => by
    show bind2 (some (PyData.int i)) (D.datAll f (is.map D.int)) _ = _
    rw [dats_ints f is]
    rfl
theorem ints_fit : ∀ {is : List Int}, (∀ i ∈ is, i.natAbs < 10 ^ 500) → PyData.showableAll (is.map .int) = true ∧ PyData.hasDictAll (is.map .int) = false ∧ PyData.depthAll (is.map .int) = 0 ∧ PyData.leavesShortAll 600 (is.map .int) = true ∧ PyData.weightAll (is.map .int) ≤ is.length * 1663 ∧ PyData.canLayAll0 (is.map .int) = true
  | [], _ => ⟨rfl, rfl, rfl, rfl, Nat.le_refl _, rfl⟩
  | i :: is, k => by
    obtain ⟨a, b, c, d, e, f⟩ := ints_fit fun j hj => k j (List.mem_cons_of_mem _ hj)
    have ki := k i (List.mem_cons_self ..)
    have z := int_short ki
    have w : (PyData.int i).weight ≤ 1662 := by
      show (if (i == 0) = true then 0 else i.natAbs.log2 + 1) ≤ 1662
      split
      · omega
      · rename_i q
        have nz : i.natAbs ≠ 0 := fun y => q (by simp [Int.natAbs_eq_zero.mp y])
        have := (Nat.log2_lt (k := 1661) nz).mpr (Nat.lt_of_lt_of_le ki (by decide +kernel))
        omega
    refine ⟨?_, ?_, ?_, ?_, ?_, ?_⟩
    · show ((PyData.int i).showable && _) = true
      rw [z.2, a]; rfl
    · show ((PyData.int i).hasDict || _) = false
      rw [b]; rfl
    · show max (PyData.int i).depth _ = 0
      rw [c]; rfl
    · show ((PyData.int i).leavesShort 600 && _) = true
      rw [z.1, d]; rfl
    · show (PyData.int i).weight + 1 + _ ≤ (is.length + 1) * 1663
      omega
    · show ((PyData.int i).canLay0 && _) = true
      rw [f]; rfl
theorem repr_ints {is : List Int} (k : ∀ i ∈ is, i.natAbs < 10 ^ 500) (l : is.length ≤ 12) : ∃ s, fRepr (.lst (is.map D.int)) h = some (.str s) := by
  obtain ⟨a, b, c, d, e, f⟩ := ints_fit k
  refine ⟨_, repr_of (c := .list (is.map .int)) ?_ a b ?_ d ?_⟩
  · show (D.datAll _ (is.map D.int)).map PyData.list = _
    rw [dats_ints]; rfl
  · show PyData.depthAll (is.map .int) + 1 ≤ 64
    rw [c]; decide
  · show PyData.weightAll (is.map .int) ≤ _
    omega
end
end Ev
/-! EvV: comprehensions, sums, greatest and least, told by what holds after. -/
namespace Ev
open PySem PySem.Spec L2
variable [TheW]
inductive All2 {α β : Type} (P : α → β → Prop) : List α → List β → Prop
  | nil : All2 P [] []
  | cons {a : α} {b : β} {l : List α} {m : List β} : P a b → All2 P l m → All2 P (a :: l) (b :: m)
mutual
theorem walk_le {b : Nat} {f : Nat → Option D} (hf : ∀ m, m < b → f m = some (.ref m)) : ∀ d : D, d.und b = true → D.walk f d = some d
  | .non, _ => rfl
  | .bl _, _ => rfl
  | .int _, _ => rfl
  | .str _, _ => rfl
  | .ref m, u => hf m (Nat.blt_eq.mp u)
  | .tup xs, u => by unfold D.walk; rw [walkAll_le hf xs u]; rfl
  | .lst xs, u => by unfold D.walk; rw [walkAll_le hf xs u]; rfl
  | .scr xs, u => by unfold D.walk; rw [walkAll_le hf xs u]; rfl
  | .ins _ _ xs, u => by unfold D.walk; rw [walkAll_le hf xs u]; rfl
  | .dct _ xs, u => by unfold D.walk; rw [walkAll_le hf xs u]; rfl
  | .cls _, _ => rfl
  | .fnv _, _ => rfl
  | .exc _ _ xs, u => by unfold D.walk; rw [walkAll_le hf xs u]; rfl
theorem walkAll_le {b : Nat} {f : Nat → Option D} (hf : ∀ m, m < b → f m = some (.ref m)) : ∀ ds : List D, D.undAll b ds = true → D.walkAll f ds = some ds
  | [], _ => rfl
  | d :: ds, u => by
    unfold D.undAll at u
    rw [Bool.and_eq_true] at u
    unfold D.walkAll
    rw [walk_le hf d u.1, walkAll_le hf ds u.2]; rfl
end
section
variable {h : Hs} {e : En} {N : En → Hs → Prop} {R Q : D → Hs → Prop} {ct : CT} {el : Den} {t : DenT} {e₀ : En}
theorem All2.len {α β : Type} {P : α → β → Prop} : ∀ {l : List α} {m : List β}, All2 P l m → l.length = m.length
  | _, _, .nil => rfl
  | _, _, .cons _ t => by rw [List.length_cons, List.length_cons, t.len]
theorem All2.left {α β : Type} {P : α → β → Prop} : ∀ {l : List α} {m : List β}, All2 P l m → ∀ a ∈ l, ∃ b ∈ m, P a b
  | _, _, .nil, a, h => by cases h
  | _, _, .cons p t, a, h => by
    rcases List.mem_cons.mp h with e | h
    · subst e; exact ⟨_, List.mem_cons_self .., p⟩
    · obtain ⟨b, m, q⟩ := t.left a h; exact ⟨b, List.mem_cons_of_mem _ m, q⟩
theorem All2.right {α β : Type} {P : α → β → Prop} : ∀ {l : List α} {m : List β}, All2 P l m → ∀ b ∈ m, ∃ a ∈ l, P a b
  | _, _, .nil, a, h => by cases h
  | _, _, .cons p t, a, h => by
    rcases List.mem_cons.mp h with e | h
    · subst e; exact ⟨_, List.mem_cons_self .., p⟩
    · obtain ⟨b, m, q⟩ := t.right a h; exact ⟨b, List.mem_cons_of_mem _ m, q⟩
/-- the heap stays, each item gives an answer of P -/
theorem comp2_is (P : D → D → Prop) : ∀ {xs : List D}, (∀ x ∈ xs, ∃ e₁, ct.put x e₀ = some e₁ ∧ (el e₁ h).is fun y h' => h' = h ∧ P x y) → (compL ct tYs el e₀ xs h).is fun ys h' => h' = h ∧ All2 P xs ys
  | [], _ => ⟨rfl, .nil⟩
  | x :: xs, step => by
    obtain ⟨e₁, q, k⟩ := step x (List.mem_cons_self ..)
    have ih := comp2_is P (xs := xs) fun z m => step z (List.mem_cons_of_mem _ m)
    unfold compL
    rw [q]
    show (Res.bind _ _).is _
    rw [is_bind]
    refine k.mono fun y h' ⟨eh, p⟩ => ?_
    subst eh
    rw [is_bind]
    exact ih.mono fun ys h' ⟨eh, a⟩ => ⟨eh, .cons p a⟩
theorem compF_is {α : Type} (f : α → D) (g : α → D) : ∀ {xs : List α}, (∀ x ∈ xs, ∃ e₁, ct.put (f x) e₀ = some e₁ ∧ (el e₁ h).is fun y h' => h' = h ∧ y = g x) → (compL ct tYs el e₀ (xs.map f) h).is fun ys h' => h' = h ∧ ys = xs.map g
  | [], _ => ⟨rfl, rfl⟩
  | x :: xs, step => by
    obtain ⟨e₁, q, k⟩ := step x (List.mem_cons_self ..)
    have ih := compF_is f g (xs := xs) fun z m => step z (List.mem_cons_of_mem _ m)
    rw [List.map_cons]
    unfold compL
    rw [q]
    show (Res.bind _ _).is _
    rw [is_bind]
    refine k.mono fun y h' ⟨eh, p⟩ => ?_
    subst eh
    rw [is_bind]
    exact ih.mono fun ys h' ⟨eh, a⟩ => ⟨eh, by rw [p, a, List.map_cons]⟩
theorem compP_is {α : Type} (f : α → D) (g : α → D) (p : α → Bool) : ∀ {xs : List α}, (∀ x ∈ xs, ∃ e₁, ct.put (f x) e₀ = some e₁ ∧ (t e₁ h).is fun b h' => b = p x ∧ h' = h ∧ (b = true → (el e₁ h).is fun y h' => h' = h ∧ y = g x)) → (compL ct t el e₀ (xs.map f) h).is fun ys h' => h' = h ∧ ys = (xs.filter p).map g
  | [], _ => ⟨rfl, rfl⟩
  | x :: xs, step => by
    obtain ⟨e₁, q, k⟩ := step x (List.mem_cons_self ..)
    have ih := compP_is f g p (xs := xs) fun z m => step z (List.mem_cons_of_mem _ m)
    rw [List.map_cons]
    unfold compL
    rw [q]
    show (Res.bind _ _).is _
    rw [is_bind]
    refine k.mono fun b h' ⟨eb, eh, k⟩ => ?_
    subst eh
    cases b with
    | true =>
      rw [if_pos rfl, is_bind]
      refine (k rfl).mono fun y h' ⟨eh, py⟩ => ?_
      subst eh
      rw [is_bind]
      refine ih.mono fun ys h' ⟨eh, a⟩ => ⟨eh, ?_⟩
      rw [List.filter_cons_of_pos eb.symm, List.map_cons, py, a]
    | false =>
      rw [if_neg (by decide)]
      refine ih.mono fun ys h' ⟨eh, a⟩ => ⟨eh, ?_⟩
      rw [List.filter_cons_of_neg (by rw [← eb]; decide), a]
theorem mapI : ∀ is : List Int, mapO asI (is.map D.int) = some is
  | [] => rfl
  | i :: is => by
    show mapO asI (D.int i :: is.map D.int) = _
    unfold mapO
    rw [mapI is]
    rfl
theorem sum_is {is : List Int} : fSum (.lst (is.map D.int)) h = some (.int is.sum) := by
  show (match mapO asI (is.map D.int) with | none => none | some bs => some (D.int bs.sum)) = _
  rw [mapI]
theorem max_is {is : List Int} (hl : 0 < is.length) : fMax (.lst (is.map D.int)) h = some (.int (maxI is)) := by
  show (match mapO asI (is.map D.int) with | none => none | some bs => if 0 < bs.length then some (D.int (maxI bs)) else none) = _
  rw [mapI]
  exact if_pos hl
theorem min_is {is : List Int} (hl : 0 < is.length) : fMin (.lst (is.map D.int)) h = some (.int (minI is)) := by
  show (match mapO asI (is.map D.int) with | none => none | some bs => if 0 < bs.length then some (D.int (minI bs)) else none) = _
  rw [mapI]
  exact if_pos hl
theorem frz_low {b : Nat} {d : D} (u : d.und b = true) : frz b h 6 d = some d := by
  refine walk_le (fun m hm => ?_) d u
  exact if_pos hm
theorem set_app {n : Nat} {y : Cl} {l : Hs} (hn : n < h.length) : (h ++ l).set n y = h.set n y ++ l := List.set_append_left _ _ hn
theorem get_app {n : Nat} {y : Cl} {l : Hs} (e : h[n]? = some y) : (h ++ l)[n]? = some y := by
  have hn : n < h.length := (List.getElem?_eq_some_iff.mp e).1
  rw [List.getElem?_append_left hn, e]
theorem take_set {n : Nat} {y : Cl} : List.take h.length (List.set h n y) = List.set h n y := List.take_of_length_le (by rw [List.length_set]; exact Nat.le_refl _)
theorem take_app {n : Nat} {y : Cl} {l : Hs} : List.take h.length (List.set h n y ++ l) = List.set h n y := by
  rw [List.take_append_of_le_length (by rw [List.length_set]; exact Nat.le_refl _), take_set]
theorem set_at {n : Nat} {x y : Cl} (e : h[n]? = some x) : (h.set n y)[n]? = some y := by
  have hn : n < h.length := (List.getElem?_eq_some_iff.mp e).1
  simp [hn]
theorem set_same {n : Nat} {x : Cl} (e : h[n]? = some x) : h = h.set n x := by
  have hn : n < h.length := (List.getElem?_eq_some_iff.mp e).1
  have z : h[n] = x := (List.getElem?_eq_some_iff.mp e).2
  rw [← z, List.set_getElem_self]
theorem atI_nat {α : Type} {xs : List α} {m : Nat} (hm : m < xs.length) : atI xs (m : Int) = some xs[m] := by
  unfold atI ixN
  rw [if_pos (by omega), if_pos (by omega)]
  show xs[(m : Int).toNat]? = _
  rw [Int.toNat_natCast, List.getElem?_eq_getElem hm]
theorem mulOk_b {i j : Int} (p : i.natAbs < 2 ^ 1000) (q : j.natAbs < 2 ^ 1000) : mulOk i j = true := by
  unfold mulOk
  have z : ∀ m : Nat, m < 2 ^ 1000 → m.log2 < 1000 := fun m hm => by
    by_cases hz : m = 0
    · subst hz; decide
    · exact (Nat.log2_lt hz).mpr hm
  have := z _ p
  have := z _ q
  simp; omega
theorem enu_is {a : Den} {Q : Src → Hs → Prop} (k : (a e h).is fun d h => ∃ s, srcE d = some s ∧ Q s h) : (iEnu a e h).is Q := by
  unfold iEnu
  rw [is_bind]
  refine k.mono fun d h ⟨s, q, k⟩ => ?_
  rw [q]
  exact k
@[simp] theorem gTl_is {k : Nat} {gs : DenGs} {xs : List D} (q : xs.length = k) : (gTp k gs (.lst xs) e h).is N = (gs xs e h).is N := by
  subst q
  show (if xs.length = xs.length then gs xs e h else .bad).is N = _
  rw [if_pos rfl]
theorem rg1_is {t : Bool} {a : Den} (k : (a e h).is fun d h => ∃ i, d = .int i ∧ rgOk 0 i = true ∧ Q (mkS t (rangeL 0 i.toNat)) h) : (dRg1 t a e h).is Q := by
  unfold dRg1
  rw [is_bind]
  refine k.mono fun d h ⟨i, ed, q, k⟩ => ?_
  subst ed
  show (rgD t 0 i h).is Q
  unfold rgD
  rw [if_pos q, Int.sub_zero]
  exact k
theorem app_is {o a : Den} : (dApp o a e h).is Q = (o e h).is fun x h => ∃ p, liveAt h x = some p ∧ (a e h).is fun y h => ∃ h', appO x y h = some h' ∧ Q .non h' := by
  unfold dApp
  rw [is_bind]
  congr 1; funext x h
  cases q : liveAt h x with
  | none => simp [orBad]
  | some p =>
    show ((a e h).bind _).is Q = _
    rw [is_bind]
    simp only [Option.some.injEq, exists_eq_left']
    congr 1; funext y h'
    cases appO x y h' <;> simp [orBad]
/-- a loop over a range, by its turns -/
theorem forR_is {g : DenG} {body : DenS} {lo : Int} {n : Nat} (J : Nat → En → Hs → Prop) (step : ∀ t e h, t < n → J t e h → (g (.int (lo + t)) e h).is fun e h => (body e h).is (J (t + 1)) R) {e : En} {h : Hs} (k : J 0 e h) : (forL g body (rangeL lo n) e h).is (J n) R := by
  have hl : (rangeL lo n).length = n := by unfold rangeL; simp
  refine (forL_is (fun xs e h => ∃ t, t ≤ n ∧ xs = (rangeL lo n).drop t ∧ J t e h) ?_ ⟨0, Nat.zero_le _, rfl, k⟩).mono ?_ fun d h z => z
  · rintro x xs e h ⟨t, ht, ex, k⟩
    have lt : t < (rangeL lo n).length := by
      refine Nat.lt_of_not_le fun z => ?_
      rw [List.drop_eq_nil_of_le z] at ex
      cases ex
    rw [List.drop_eq_getElem_cons lt] at ex
    obtain ⟨rfl, rfl⟩ := List.cons.inj ex
    have ei : (rangeL lo n)[t]? = some (.int (lo + t)) := by unfold rangeL; rw [List.getElem?_map, List.getElem?_range (by omega)]; rfl
    rw [List.getElem?_eq_getElem lt] at ei
    rw [Option.some.inj ei]
    exact (step t e h (by omega) k).mono fun e h k => k.mono (fun e h k => ⟨t + 1, by omega, rfl, k⟩) fun d h z => z
  · rintro e h ⟨t, ht, ex, k⟩
    have : (rangeL lo n).length ≤ t := by
      refine Nat.le_of_not_lt fun z => ?_
      rw [List.drop_eq_getElem_cons z] at ex
      cases ex
    have : t = n := by omega
    subst this
    exact k
end
end Ev
/-! EvW: plain values: ==, repr; tests that are known. -/
namespace Ev
open PySem PySem.Spec L2
variable [TheW]
mutual
def toP : D → PyData
  | .non => .none
  | .bl b => .bool b
  | .int i => .int i
  | .str s => .str s
  | .tup xs => .tuple (toPs xs)
  | .lst xs => .list (toPs xs)
  | .scr xs => .list (toPs xs)
  | _ => .none
def toPs : List D → List PyData
  | [] => []
  | x :: xs => toP x :: toPs xs
end
theorem toPs_map : ∀ xs : List D, toPs xs = xs.map toP
  | [] => rfl
  | x :: xs => by show toP x :: toPs xs = _; rw [toPs_map xs]; rfl
/-- plain, no deeper than n -/
def Pl : Nat → D → Bool
  | _, .non => true
  | _, .bl _ => true
  | _, .int _ => true
  | _, .str s => PyData.strOk s
  | n + 1, .tup xs => xs.all (Pl n)
  | n + 1, .lst xs => xs.all (Pl n)
  | n + 1, .scr xs => xs.all (Pl n)
  | _, _ => false
section
variable {h : Hs}
theorem dat_pl (f : Nat → Option PyData) : ∀ (n : Nat) (d : D), Pl n d = true → D.dat f d = some (toP d) := by
  have all : ∀ (n : Nat), (∀ d, Pl n d = true → D.dat f d = some (toP d)) → ∀ xs : List D, xs.all (Pl n) = true → D.datAll f xs = some (toPs xs) := fun n ih xs => by
    induction xs with
    | nil => intro _; rfl
    | cons x xs ihx =>
      intro z
      rw [List.all_cons, Bool.and_eq_true] at z
      show bind2 (D.dat f x) (D.datAll f xs) _ = _
      rw [ih x z.1, ihx z.2]; rfl
  intro n
  induction n with
  | zero => intro d z; cases d <;> first | rfl | cases z
  | succ n ih =>
    intro d z
    cases d <;> try rfl
    · show (D.datAll f _).map _ = _
      rw [all n ih _ z]; rfl
    · show (D.datAll f _).map _ = _
      rw [all n ih _ z]; rfl
    · show (D.datAll f _).map _ = _
      rw [all n ih _ z]; rfl
    all_goals cases z
theorem lay_pl : ∀ (n : Nat) (d : D), Pl n d = true → (toP d).canLay0 = true ∧ (toP d).depth ≤ n := by
  have all : ∀ (n : Nat), (∀ d, Pl n d = true → (toP d).canLay0 = true ∧ (toP d).depth ≤ n) → ∀ xs : List D, xs.all (Pl n) = true → PyData.canLayAll0 (toPs xs) = true ∧ PyData.depthAll (toPs xs) ≤ n := fun n ih xs => by
    induction xs with
    | nil => intro _; exact ⟨rfl, Nat.zero_le _⟩
    | cons x xs ihx =>
      intro z
      rw [List.all_cons, Bool.and_eq_true] at z
      obtain ⟨a, b⟩ := ih x z.1
      obtain ⟨c, d⟩ := ihx z.2
      constructor
      · show ((toP x).canLay0 && PyData.canLayAll0 (toPs xs)) = true
        rw [a, c]; rfl
      · show max (toP x).depth (PyData.depthAll (toPs xs)) ≤ n
        omega
  intro n
  induction n with
  | zero =>
    intro d z
    cases d <;> first | exact ⟨rfl, Nat.le_refl _⟩ | exact ⟨z, Nat.le_refl _⟩ | cases z
  | succ n ih =>
    intro d z
    cases d <;> try exact ⟨rfl, Nat.zero_le _⟩
    · exact ⟨z, Nat.zero_le _⟩
    · obtain ⟨a, b⟩ := all n ih _ z
      exact ⟨a, Nat.succ_le_succ b⟩
    · obtain ⟨a, b⟩ := all n ih _ z
      exact ⟨a, Nat.succ_le_succ b⟩
    · obtain ⟨a, b⟩ := all n ih _ z
      exact ⟨a, Nat.succ_le_succ b⟩
theorem shaped_pl {n : Nat} {d : D} (hn : n ≤ 64) (z : Pl n d = true) : SeqAt.shaped (toP d) = true := by
  obtain ⟨a, b⟩ := lay_pl n d z
  unfold SeqAt.shaped
  rw [a, decide_eq_true (show (toP d).depth ≤ 64 by omega)]; rfl
/-- == of plain values -/
def deq (x y : D) : Bool := PyData.eqv (toP x) (toP y)
theorem eqO_pl {n : Nat} {x y : D} (hn : n ≤ 64) (p : Pl n x = true) (q : Pl n y = true) : eqO x y h = some (deq x y) := by
  unfold eqO
  rw [show dat h x = some (toP x) from dat_pl _ n x p]
  dsimp only
  rw [show dat h y = some (toP y) from dat_pl _ n y q]
  dsimp only
  rw [if_pos (shaped_pl hn p), if_pos (shaped_pl hn q)]; rfl
theorem eqS_pl {n : Nat} {x y : D} (hn : n ≤ 64) (p : Pl n x = true) (q : Pl n y = true) : eqS x y h = some (deq x y) := by
  unfold eqS
  cases x <;> try exact eqO_pl hn p q
  cases y <;> try exact eqO_pl hn p q
  rfl
theorem deq_refl {n : Nat} {x : D} (p : Pl n x = true) : deq x x = true := SeqAt.eqv_refl _ (lay_pl n x p).1
theorem eqS_same {n : Nat} {x : D} (hn : n ≤ 64) (p : Pl n x = true) : eqS x x h = some true := by rw [eqS_pl hn p p, deq_refl p]
@[simp] theorem deq_int {i j : Int} : deq (.int i) (.int j) = decide (i = j) := by show (i == j) = _; rw [Bool.eq_iff_iff]; simp
@[simp] theorem deq_tup {xs ys : List D} : deq (.tup xs) (.tup ys) = PyData.eqvAll (toPs xs) (toPs ys) := rfl
@[simp] theorem deq_lst {xs ys : List D} : deq (.lst xs) (.lst ys) = PyData.eqvAll (toPs xs) (toPs ys) := rfl
@[simp] theorem eqvAll_nil : PyData.eqvAll (toPs []) (toPs []) = true := rfl
@[simp] theorem eqvAll_cons {x y : D} {xs ys : List D} : PyData.eqvAll (toPs (x :: xs)) (toPs (y :: ys)) = (deq x y && PyData.eqvAll (toPs xs) (toPs ys)) := rfl
@[simp] theorem eqvAll_nc {y : D} {ys : List D} : PyData.eqvAll (toPs []) (toPs (y :: ys)) = false := rfl
@[simp] theorem eqvAll_cn {y : D} {ys : List D} : PyData.eqvAll (toPs (y :: ys)) (toPs []) = false := rfl
theorem pl_mono : ∀ {n m : Nat} {d : D}, n ≤ m → Pl n d = true → Pl m d = true := by
  intro n
  induction n with
  | zero =>
    intro m d _ z
    cases d <;> cases m <;> first | rfl | exact z | cases z
  | succ n ih =>
    intro m d hm z
    cases m with
    | zero => omega
    | succ m =>
      cases d <;> first | rfl | exact z | skip
      all_goals
        refine List.all_eq_true.mpr fun x hx => ih (by omega) (List.all_eq_true.mp z x hx)
/-- what repr can write: plain, ints below 10 ^ 500, signs; no deeper than n -/
def Rp : Nat → D → Bool
  | _, .non => true
  | _, .bl _ => true
  | _, .int i => decide (i.natAbs < 10 ^ 500)
  | _, .str s => s.cps.toList.all fun c => decide (c < 16 ^ 8)
  | n + 1, .tup xs => xs.all (Rp n)
  | n + 1, .lst xs => xs.all (Rp n)
  | n + 1, .scr xs => xs.all (Rp n)
  | _, _ => false
mutual
/-- how much repr writes, at most -/
def wgt : D → Nat
  | .non => 0
  | .bl _ => 0
  | .int _ => 1662
  | .str s => s.cps.size
  | .tup xs => wgts xs
  | .lst xs => wgts xs
  | .scr xs => wgts xs
  | _ => 0
def wgts : List D → Nat
  | [] => 0
  | x :: xs => wgt x + 1 + wgts xs
end
theorem int_w {i : Int} (k : i.natAbs < 10 ^ 500) : (PyData.int i).weight ≤ 1662 := by
  show (if (i == 0) = true then 0 else i.natAbs.log2 + 1) ≤ 1662
  split
  · omega
  · rename_i q
    have nz : i.natAbs ≠ 0 := fun y => q (by simp [Int.natAbs_eq_zero.mp y])
    have := (Nat.log2_lt (k := 1661) nz).mpr (Nat.lt_of_lt_of_le k (by decide +kernel))
    omega
structure RpOk (n : Nat) (x : D) : Prop where
  d : ∀ f, D.dat f x = some (toP x)
  s : (toP x).showable = true
  h : (toP x).hasDict = false
  p : (toP x).depth ≤ n
  l : (toP x).leavesShort 600 = true
  w : (toP x).weight ≤ wgt x
structure RpOks (n : Nat) (x : List D) : Prop where
  d : ∀ f, D.datAll f x = some (toPs x)
  s : PyData.showableAll (toPs x) = true
  h : PyData.hasDictAll (toPs x) = false
  p : PyData.depthAll (toPs x) ≤ n
  l : PyData.leavesShortAll 600 (toPs x) = true
  w : PyData.weightAll (toPs x) ≤ wgts x
theorem rps {n : Nat} (ih : ∀ d, Rp n d = true → RpOk n d) : ∀ xs : List D, xs.all (Rp n) = true → RpOks n xs
  | [], _ => ⟨fun _ => rfl, rfl, rfl, Nat.zero_le _, rfl, Nat.le_refl _⟩
  | x :: xs, z => by
    rw [List.all_cons, Bool.and_eq_true] at z
    obtain ⟨a1, a2, a3, a4, a5, a6⟩ := ih x z.1
    obtain ⟨b1, b2, b3, b4, b5, b6⟩ := rps ih xs z.2
    refine ⟨fun f => ?_, ?_, ?_, ?_, ?_, ?_⟩
    · show bind2 (D.dat f x) (D.datAll f xs) _ = _
      rw [a1, b1]; rfl
    · show ((toP x).showable && _) = true
      rw [a2, b2]; rfl
    · show ((toP x).hasDict || _) = false
      rw [a3, b3]; rfl
    · show max (toP x).depth _ ≤ n
      omega
    · show ((toP x).leavesShort 600 && _) = true
      rw [a5, b5]; rfl
    · show (toP x).weight + 1 + PyData.weightAll (toPs xs) ≤ wgt x + 1 + wgts xs
      omega
theorem rp_ok : ∀ (n : Nat) (d : D), Rp n d = true → RpOk n d := by
  have atom : ∀ (n m : Nat) (d : D), Rp m d = true → (∀ xs, d ≠ .tup xs) → (∀ xs, d ≠ .lst xs) → (∀ xs, d ≠ .scr xs) → RpOk n d := fun n m d z h1 h2 h3 => by
    cases d with
    | non => exact ⟨fun _ => rfl, rfl, rfl, Nat.zero_le _, rfl, Nat.le_refl _⟩
    | bl b => exact ⟨fun _ => rfl, rfl, rfl, Nat.zero_le _, rfl, Nat.le_refl _⟩
    | int i =>
      have k : i.natAbs < 10 ^ 500 := by
        have z : decide (i.natAbs < 10 ^ 500) = true := by cases m <;> exact z
        exact of_decide_eq_true z
      obtain ⟨a, b⟩ := int_short k
      exact ⟨fun _ => rfl, b, rfl, Nat.zero_le _, a, int_w k⟩
    | str s =>
      have z : (s.cps.toList.all fun c => decide (c < 16 ^ 8)) = true := by cases m <;> exact z
      exact ⟨fun _ => rfl, rfl, rfl, Nat.zero_le _, z, Nat.le_refl _⟩
    | tup xs => exact absurd rfl (h1 xs)
    | lst xs => exact absurd rfl (h2 xs)
    | scr xs => exact absurd rfl (h3 xs)
    | ref m' => cases m <;> cases z
    | ins _ _ _ => cases m <;> cases z
    | dct _ _ => cases m <;> cases z
    | cls _ => cases m <;> cases z
    | exc _ _ _ => cases m <;> cases z
    | fnv _ => cases m <;> cases z
  intro n
  induction n with
  | zero =>
    intro d z
    refine atom 0 0 d z ?_ ?_ ?_ <;> (intro xs e; subst e; cases z)
  | succ n ih =>
    intro d z
    cases d with
    | tup xs =>
      obtain ⟨a1, a2, a3, a4, a5, a6⟩ := rps ih xs z
      exact ⟨fun f => by show (D.datAll f xs).map _ = _; rw [a1]; rfl, a2, a3, Nat.succ_le_succ a4, a5, a6⟩
    | lst xs =>
      obtain ⟨a1, a2, a3, a4, a5, a6⟩ := rps ih xs z
      exact ⟨fun f => by show (D.datAll f xs).map _ = _; rw [a1]; rfl, a2, a3, Nat.succ_le_succ a4, a5, a6⟩
    | scr xs =>
      obtain ⟨a1, a2, a3, a4, a5, a6⟩ := rps ih xs z
      exact ⟨fun f => by show (D.datAll f xs).map _ = _; rw [a1]; rfl, a2, a3, Nat.succ_le_succ a4, a5, a6⟩
    | _ => exact atom (n + 1) (n + 1) _ z (by intro xs e; cases e) (by intro xs e; cases e) (by intro xs e; cases e)
mutual
/-- as wgt, small ints weigh little -/
def wgtS : D → Nat
  | .non => 0
  | .bl _ => 0
  | .int i => if i.natAbs < 16 then 4 else if i.natAbs < 2 ^ 200 then 200 else 1662
  | .str s => s.cps.size
  | .tup xs => wgtsS xs
  | .lst xs => wgtsS xs
  | .scr xs => wgtsS xs
  | _ => 0
def wgtsS : List D → Nat
  | [] => 0
  | x :: xs => wgtS x + 1 + wgtsS xs
end
theorem int_wS {i : Int} (k : i.natAbs < 10 ^ 500) : (PyData.int i).weight ≤ wgtS (.int i) := by
  show _ ≤ if i.natAbs < 16 then 4 else if i.natAbs < 2 ^ 200 then 200 else 1662
  split
  · show (if (i == 0) = true then 0 else i.natAbs.log2 + 1) ≤ 4
    split
    · omega
    · rename_i z q
      have nz : i.natAbs ≠ 0 := fun y => q (by simp [Int.natAbs_eq_zero.mp y])
      have := (Nat.log2_lt (k := 4) nz).mpr (by omega)
      omega
  · split
    · show (if (i == 0) = true then 0 else i.natAbs.log2 + 1) ≤ 200
      split
      · omega
      · rename_i z w q
        have nz : i.natAbs ≠ 0 := fun y => q (by simp [Int.natAbs_eq_zero.mp y])
        have := (Nat.log2_lt (k := 200) nz).mpr w
        omega
    · exact int_w k
mutual
theorem wgtS_le : ∀ {n : Nat} {d : D}, Rp n d = true → (toP d).weight ≤ wgtS d
  | _, .non, _ => Nat.le_refl _
  | _, .bl _, _ => Nat.le_refl _
  | n, .int i, z => int_wS (by
      have z : decide (i.natAbs < 10 ^ 500) = true := by cases n <;> exact z
      exact of_decide_eq_true z)
  | _, .str _, _ => Nat.le_refl _
  | 0, .tup _, z => by cases z
  | 0, .lst _, z => by cases z
  | 0, .scr _, z => by cases z
  | n + 1, .tup xs, z => wgtsS_le (n := n) (xs := xs) z
  | n + 1, .lst xs, z => wgtsS_le (n := n) (xs := xs) z
  | n + 1, .scr xs, z => wgtsS_le (n := n) (xs := xs) z
  | n, .ref _, z => by cases n <;> cases z
  | n, .ins _ _ _, z => by cases n <;> cases z
  | n, .dct _ _, z => by cases n <;> cases z
  | n, .cls _, z => by cases n <;> cases z
  | n, .exc _ _ _, z => by cases n <;> cases z
  | n, .fnv _, z => by cases n <;> cases z
theorem wgtsS_le : ∀ {n : Nat} {xs : List D}, xs.all (Rp n) = true → PyData.weightAll (toPs xs) ≤ wgtsS xs
  | _, [], _ => Nat.le_refl _
  | n, x :: xs, z => by
    rw [List.all_cons, Bool.and_eq_true] at z
    have a := wgtS_le z.1
    have b := wgtsS_le z.2
    show (toP x).weight + 1 + PyData.weightAll (toPs xs) ≤ wgtS x + 1 + wgtsS xs
    omega
end
theorem repr_small {n : Nat} {x : D} (hn : n ≤ 64) (p : Rp n x = true) (w : wgtS x ≤ 20000) : fRepr x h = some (.str (toP x).shown) := by
  obtain ⟨a1, a2, a3, a4, a5, a6⟩ := rp_ok n x p
  exact repr_of (a1 _) a2 a3 (by omega) a5 (Nat.le_trans (wgtS_le p) w)
theorem wgtsS_map {α : Type} {f : α → D} {b : Nat} : ∀ {xs : List α}, (∀ x ∈ xs, wgtS (f x) ≤ b) → wgtsS (xs.map f) ≤ xs.length * (b + 1)
  | [], _ => by simp [wgtsS]
  | x :: xs, m => by
    have ih := wgtsS_map (xs := xs) fun y hy => m y (List.mem_cons_of_mem _ hy)
    have := m x (List.mem_cons_self ..)
    show wgtS (f x) + 1 + wgtsS (xs.map f) ≤ (xs.length + 1) * (b + 1)
    rw [Nat.add_mul]; omega
/-- repr of what it can write -/
theorem repr_rp {n : Nat} {x : D} (hn : n ≤ 64) (p : Rp n x = true) (w : wgt x ≤ 20000) : fRepr x h = some (.str (toP x).shown) := by
  obtain ⟨a1, a2, a3, a4, a5, a6⟩ := rp_ok n x p
  exact repr_of (a1 _) a2 a3 (by omega) a5 (by omega)
theorem wgts_map {α : Type} {f : α → D} {b : Nat} : ∀ {xs : List α}, (∀ x ∈ xs, wgt (f x) ≤ b) → wgts (xs.map f) ≤ xs.length * (b + 1)
  | [], _ => by simp [wgts]
  | x :: xs, m => by
    have ih := wgts_map (xs := xs) fun y hy => m y (List.mem_cons_of_mem _ hy)
    have := m x (List.mem_cons_self ..)
    show wgt (f x) + 1 + wgts (xs.map f) ≤ (xs.length + 1) * (b + 1)
    rw [Nat.add_mul]; omega
theorem all_map {α : Type} {f : α → D} {p : D → Bool} {xs : List α} (m : ∀ x ∈ xs, p (f x) = true) : (xs.map f).all p = true := by
  rw [List.all_map]
  exact List.all_eq_true.mpr m
/-- a test that is known to be false, nothing behind it -/
theorem no_is {s : DenT} {e : En} {N : En → Hs → Prop} {R : D → Hs → Prop} {x : DenS} (k : (s e h).is fun b h => b = false ∧ N e h) : (sIf s x sPass e h).is N R := by
  rw [is_if]
  refine k.mono fun b h ⟨eb, k⟩ => ?_
  subst eb
  exact k
theorem nx_is {s : DenS} {e e' : En} {h' : Hs} {N : En → Hs → Prop} {R : D → Hs → Prop} (q : s e h = .nx e' h') (k : N e' h') : (s e h).is N R := by rw [q]; exact k
theorem rt_is {s : DenS} {e : En} {h' : Hs} {d : D} {N : En → Hs → Prop} {R : D → Hs → Prop} (q : s e h = .rt d h') (k : R d h') : (s e h).is N R := by rw [q]; exact k
theorem tm_is {g : Hs → D → D → Option D} {o a : Den} {e : En} {Q : D → Hs → Prop} : (dTm g o a e h).is Q = (o e h).is fun x h => ∃ z, asS x = some z ∧ (a e h).is fun y h => ∃ d, g h x y = some d ∧ Q d h := by
  unfold dTm
  rw [is_bind]
  congr 1
  funext x h
  cases q : asS x with
  | none => simp
  | some z => simp only [is_bind, is_of, Option.some.injEq, exists_eq_left']
def attD (f : Str) (fl : List Str) (x : D) (h : Hs) : Option D := match insAt h x with
  | some (c, ks, vs) => if fl.contains c = true then fldD ks vs f else none
  | none => none
theorem att_is {f : Str} {fl : List Str} {a : Den} {e : En} {Q : D → Hs → Prop} : (dAtt f fl [] a e h).is Q = (a e h).is fun x h => ∃ d, attD f fl x h = some d ∧ Q d h := by
  unfold dAtt attD
  rw [is_bind]
  congr 1
  funext x h
  cases insAt h x with
  | none => simp
  | some p =>
    obtain ⟨c, ks, vs⟩ := p
    dsimp only
    by_cases z : fl.contains c = true
    · rw [if_pos z, if_pos z, is_of]
    · rw [if_neg z, if_neg z]; simp
theorem gAt_is {f : Str} {fl : List Str} {o : Den} {d : D} {e : En} {N : En → Hs → Prop} : (gAt f fl o d e h).is N = (o e h).is fun x h => ∃ h', setF fl x f d h = some h' ∧ N e h' := by
  unfold gAt
  rw [is_bind]
  congr 1
  funext x h
  cases setF fl x f d h <;> simp
theorem rev_is {a : Den} {e : En} {Q : D → Hs → Prop} : (dRev a e h).is Q = (a e h).is fun x h => ∃ d, revD h x = some d ∧ Q d h := by
  unfold dRev
  simp only [is_bind, is_of]
theorem neg_is {a : Den} {e : En} {Q : D → Hs → Prop} : (dNeg a e h).is Q = (a e h).is fun x h => (bNeg x h).is Q := by
  unfold dNeg
  simp only [is_bind]
theorem neg_i {i : Int} {Q : D → Hs → Prop} : (bNeg (.int i) h).is Q = Q (.int (-i)) h := propext ⟨fun z => z, fun z => z⟩
theorem so_is {a : Den} {e : En} {Q : Option Int → Hs → Prop} : (oSome a e h).is Q = (a e h).is fun x h => ∃ i, asI x = some i ∧ Q (some i) h := by
  unfold oSome
  rw [is_bind]
  congr 1
  funext x h
  cases asI x <;> simp
theorem mk_is {c : Str} {ρ : List D → Hs → Res D} {a : DenA} {e : En} {Q : D → Hs → Prop} (k : (a e h).is fun ds h => (ρ (.ref h.length :: ds) (h ++ [.live (.ins c [] [])])).is fun d h' => d = .non ∧ Q (.ref h.length) h') : (dMk c ρ a e h).is Q := by
  unfold dMk
  rw [is_bind]
  refine k.mono fun ds h k => ?_
  obtain ⟨d, h', q, rfl, z⟩ := k.ex
  rw [q]
  exact z
theorem cm_is {c : Str} {n : Nat} {ρ : List D → Hs → Res D} {a : DenA} {e : En} {Q : D → Hs → Prop} : (dCm c n ρ a e h).is Q = (a e h).is fun ds h => (ar n ρ (.cls c :: ds) h).is Q := by
  unfold dCm
  simp only [is_bind]
theorem ar_is {n : Nat} {ρ : List D → Hs → Res D} {ds : List D} {Q : D → Hs → Prop} (l : ds.length = n) (k : (ρ ds h).is Q) : (ar n ρ ds h).is Q := by
  unfold ar
  rw [if_pos l]
  exact k
theorem in_tup {n : Nat} {x : D} {ys : List D} (hn : n ≤ 63) (p : Pl n x = true) (q : Pl (n + 1) (.tup ys) = true) : inO x (.tup ys) h = some (ys.any fun z => deq z x) := by
  show inD x (.tup ys) h = _
  unfold inD
  rw [show dat h x = some (toP x) from dat_pl _ n x p]
  dsimp only
  rw [show dat h (.tup ys) = some (toP (.tup ys)) from dat_pl _ (n + 1) (.tup ys) q]
  show (if SeqAt.shaped (toP x) = true then if SeqAt.shaped (toP (.tup ys)) = true then some ((toPs ys).any fun z => PyData.eqv z (toP x)) else none else none) = _
  rw [if_pos (shaped_pl (by omega) p), if_pos (shaped_pl (n := n + 1) (by omega) q), toPs_map, List.any_map]
  rfl
theorem in_lst {n : Nat} {x : D} {ys : List D} (hn : n ≤ 63) (p : Pl n x = true) (q : Pl (n + 1) (.lst ys) = true) : inO x (.lst ys) h = some (ys.any fun z => deq z x) := by
  show inD x (.lst ys) h = _
  unfold inD
  rw [show dat h x = some (toP x) from dat_pl _ n x p]
  dsimp only
  rw [show dat h (.lst ys) = some (toP (.lst ys)) from dat_pl _ (n + 1) (.lst ys) q]
  show (if SeqAt.shaped (toP x) = true then if SeqAt.shaped (toP (.lst ys)) = true then some ((toPs ys).any fun z => PyData.eqv z (toP x)) else none else none) = _
  rw [if_pos (shaped_pl (by omega) p), if_pos (shaped_pl (n := n + 1) (by omega) q), toPs_map, List.any_map]
  rfl
@[simp] theorem deq_str {i j : Str} : deq (.str i) (.str j) = (i == j) := rfl
theorem cop_in {x y : D} : cop .In x y h = inO x y h := by unfold cop; rfl
theorem cop_nin {x y : D} : cop .NotIn x y h = (inO x y h).map (!·) := by unfold cop; rfl
theorem nRep_is {a b : Den} {e : En} {Q : List D → Hs → Prop} (k : (a e h).is fun x h => ∃ xs, x = .lst xs ∧ (b e h).is fun y h => ∃ n : Int, y = .int n ∧ repOk xs.length n = true ∧ Q (List.replicate n.toNat xs).flatten h) : (nRep a b e h).is Q := by
  unfold nRep
  rw [is_bind]
  refine k.mono fun x h ⟨xs, ex, k⟩ => ?_
  subst ex
  rw [is_bind]
  refine k.mono fun y h ⟨n, ey, z, q⟩ => ?_
  subst ey
  show (if repOk xs.length n = true then Res.ok (List.replicate n.toNat xs).flatten h else .bad).is Q
  rw [if_pos z]
  exact q
theorem idx_is {o a : Den} {e : En} {Q : D → Hs → Prop} : (dIdx o a e h).is Q = (o e h).is fun x h => ∃ xs, asL h x = some xs ∧ (a e h).is fun y h => ∃ d, idxD h x y = some d ∧ Q d h := by
  unfold dIdx
  rw [is_bind]
  congr 1; funext x h
  cases q : asL h x with
  | none => exact propext ⟨fun z => z.elim, fun ⟨_, z, _⟩ => by cases z⟩
  | some ys =>
    show (Res.bind _ _).is _ = _
    rw [is_bind]
    have e1 : ((a e h).is fun y h => (Res.of (idxD h x y) h).is Q) = ((a e h).is fun y h => ∃ d, idxD h x y = some d ∧ Q d h) := by
      congr 1; funext y h; rw [is_of]
    rw [e1]
    exact propext ⟨fun z => ⟨ys, rfl, z⟩, fun ⟨_, z, w⟩ => by cases z; exact w⟩
theorem while_is {t : DenT} {body : DenS} {N : En → Hs → Prop} {R : D → Hs → Prop} (J : Nat → En → Hs → Prop) (step : ∀ k e h, J k e h → (t e h).is fun b h => if b = true then (body e h).is (fun e h => ∃ k', k' < k ∧ J k' e h) R else N e h) {k : Nat} {e : En} {h : Hs} (hk : k < wFuel) (j : J k e h) : (sWhile t body e h).is N R := by
  have go : ∀ (n k : Nat) (e : En) (h : Hs), k < n → J k e h → (whileL t body n e h).is N R := by
    intro n
    induction n with
    | zero => intro k e h hk; omega
    | succ n ih =>
      intro k e h hk j
      unfold whileL
      rw [is_to]
      refine (step k e h j).mono fun b h z => ?_
      cases b with
      | false => exact z
      | true =>
        have z : (body e h).is (fun e h => ∃ k', k' < k ∧ J k' e h) R := z
        rw [if_pos rfl]
        revert z
        cases body e h with
        | nx e' h' => exact fun ⟨k', lt, j'⟩ => ih k' e' h' (by omega) j'
        | rt d h' => exact fun z => z
        | _ => exact fun z => z.elim
  exact go wFuel k e h hk j
theorem src_ref {m : Nat} {xs : List D} (q : h[m]? = some (.live (.lst xs))) : srcA (.ref m) h = some ⟨xs, some m⟩ := by
  have e : dctAt (.ref m) h = none := by unfold dctAt cellAt; simp only [q]
  unfold srcA
  dsimp only
  rw [e]
  show (lstAt h m).map _ = _
  unfold lstAt; rw [q]; rfl
theorem src_dct {m : Nat} {ks : List NestedKey} {vs : List D} (q : h[m]? = some (.live (.dct ks vs))) : srcA (.ref m) h = some ⟨kds ks, some m⟩ := by
  have e : dctAt (.ref m) h = some (ks, vs) := by unfold dctAt cellAt; simp only [q]
  unfold srcA
  dsimp only
  rw [e]
end
end Ev
namespace G
open PySem PySem.Spec L2 Ev PyProof.Rows
def top (i : Nat) : Stmt := PySem.Challenge.pw_pileworn_k02_rules_made.main.body.getD i (.Pass ⟨0, 0, 0, 0⟩)
def T__law_head : Tab := { N := ["_law_rows_now", "_law_words"], fn := [], kw := [], cn := [], bl := ["int"], mt := [], keep := false }
def d__law_head : DenS := (sSeq (sAsg (gNm 1) (dTm (fun _ => splitD) (dIx (dVar 0) (dC (.int 0))) (dC (.str " "))))
      (sSeq (sRet (dLst (aCons (dB1 fInt (dIx (dVar 1) (dC (.int 1)))) (aCons (dB1 fInt (dIx (dVar 1) (dC (.int 3)))) aNil))))
      sPass))
def r__law_head (ds : List D) (h : Hs) : Res D := runD T__law_head d__law_head ds h
def T_Rule___str__ : Tab := { N := ["self"], fn := [], kw := [], cn := [], bl := [], mt := [], keep := false, at_ := [("told", ["Rule"], [])] }
def d_Rule___str__ : DenS := (sSeq (sRet (dTm joinD (dC (.str "\n")) (dAtt "told" ["Rule"] [] (dVar 0))))
      sPass)
def r_Rule___str__ (ds : List D) (h : Hs) : Res D := runD T_Rule___str__ d_Rule___str__ ds h
def T_Rule___bool__ : Tab := { N := ["self"], fn := [], kw := [], cn := [], bl := [], mt := [], keep := false }
def d_Rule___bool__ : DenS := (sSeq (sRet (dC (.bl true)))
      sPass)
def r_Rule___bool__ (ds : List D) (h : Hs) : Res D := runD T_Rule___bool__ d_Rule___bool__ ds h
def T_Rule___len__ : Tab := { N := ["self"], fn := [], kw := [], cn := [], bl := ["len"], mt := [], keep := false, at_ := [("plan", ["Rule"], [])] }
def d_Rule___len__ : DenS := (sSeq (sRet (dB1 fLen (dAtt "plan" ["Rule"] [] (dVar 0))))
      sPass)
def r_Rule___len__ (ds : List D) (h : Hs) : Res D := runD T_Rule___len__ d_Rule___len__ ds h
def T_Rule___repr__ : Tab := { N := ["self"], fn := [], kw := [], cn := [], bl := ["len"], mt := [], keep := false, at_ := [("plan", ["Rule"], [])] }
def d_Rule___repr__ : DenS := (sSeq (sRet (dJs [dC (.str "Rule of "), dFmt (dB1 fLen (dAtt "plan" ["Rule"] [] (dVar 0))), dC (.str " days")] Str.empty))
      sPass)
def r_Rule___repr__ (ds : List D) (h : Hs) : Res D := runD T_Rule___repr__ d_Rule___repr__ ds h
def T_Rule_rows : Tab := { N := ["self"], fn := [], kw := [], cn := [], bl := [], mt := [], keep := false, at_ := [("told", ["Rule"], [])] }
def d_Rule_rows : DenS := (sSeq (sRet (dAtt "told" ["Rule"] [] (dVar 0)))
      sPass)
def r_Rule_rows (ds : List D) (h : Hs) : Res D := runD T_Rule_rows d_Rule_rows ds h
def T_Rule_text : Tab := { N := ["self"], fn := [], kw := [], cn := [], bl := [], mt := [], keep := false, at_ := [("told", ["Rule"], [])] }
def d_Rule_text : DenS := (sSeq (sRet (dTm joinD (dC (.str "\n")) (dAtt "told" ["Rule"] [] (dVar 0))))
      sPass)
def r_Rule_text (ds : List D) (h : Hs) : Res D := runD T_Rule_text d_Rule_text ds h
def T_Rule_plates : Tab := { N := ["self"], fn := [], kw := [], cn := [], bl := [], mt := [], keep := false, at_ := [("many", ["Rule"], [])] }
def d_Rule_plates : DenS := (sSeq (sRet (dAtt "many" ["Rule"] [] (dVar 0)))
      sPass)
def r_Rule_plates (ds : List D) (h : Hs) : Res D := runD T_Rule_plates d_Rule_plates ds h
def T_Rule_away : Tab := { N := ["self"], fn := [], kw := [], cn := [], bl := [], mt := [], keep := false, at_ := [("late", ["Rule"], [])] }
def d_Rule_away : DenS := (sSeq (sRet (dAtt "late" ["Rule"] [] (dVar 0)))
      sPass)
def r_Rule_away (ds : List D) (h : Hs) : Res D := runD T_Rule_away d_Rule_away ds h
def T__law_shows : Tab := { N := ["_law_mine", "_law_some", "_law_told", "_law_due", "_law_sheet", "_law_many_days"], fn := [("_law_head", 0, 1)], kw := [], cn := [], bl := ["bool", "len", "repr", "str", "tuple"], mt := [], keep := false, at_ := [("away", [], [("Rule", 8)]), ("plates", [], [("Rule", 7)]), ("rows", [], [("Rule", 5)]), ("text", [], [("Rule", 6)])], sp := [("__bool__", [("Rule", 1, 2)]), ("__len__", [("Rule", 1, 3)]), ("__repr__", [("Rule", 1, 4)]), ("__str__", [("Rule", 1, 1)])] }
def d__law_shows : DenS := (sSeq (sPar [4, 5] (aCons (dTm joinD (dC (.str "\n")) (dVar 1)) (aCons (dBin .Sub (dSpI fLen isLn [("Rule", 1, r_Rule___len__)] (dVar 1)) (dC (.int 1))) aNil)))
      (sSeq (sAsg (gNm 2) (dLst (aCons (dAtt "rows" [] [("Rule", r_Rule_rows)] (dVar 0)) (aCons (dAtt "text" [] [("Rule", r_Rule_text)] (dVar 0)) (aCons (dAtt "plates" [] [("Rule", r_Rule_plates)] (dVar 0)) (aCons (dAtt "away" [] [("Rule", r_Rule_away)] (dVar 0)) (aCons (dSpI fLen isLn [("Rule", 1, r_Rule___len__)] (dVar 0)) (aCons (dStrI [("Rule", 1, r_Rule___str__)] (dVar 0)) (aCons (dSpI fRepr isStr [("Rule", 1, r_Rule___repr__)] (dVar 0)) aNil)))))))))
      (sSeq (sAsg (gNm 3) (dBin .Add (dBin .Add (dLst (aCons (dB1 fTup (dVar 1)) (aCons (dVar 4) aNil))) (dCall r__law_head 1 (aCons (dVar 1) aNil))) (dLst (aCons (dVar 5) (aCons (dVar 4) (aCons (dBin .Add (dBin .Add (dC (.str "Rule of ")) (dStrI [("Rule", 1, r_Rule___str__)] (dVar 5))) (dC (.str " days"))) aNil))))))
      (sSeq (sRet (dAn (dOf (tCm .Eq (dSpI fRepr isStr [("Rule", 1, r_Rule___repr__)] (dVar 2)) (dSpI fRepr isStr [("Rule", 1, r_Rule___repr__)] (dVar 3)))) (dSpI fBoo isBl [("Rule", 1, r_Rule___bool__)] (dVar 0))))
      sPass))))
def r__law_shows (ds : List D) (h : Hs) : Res D := runD T__law_shows d__law_shows ds h
def T_number_in : Tab := { N := ["word", "sign"], fn := [], kw := [], cn := [("FIGURES", .str "0123456789")], bl := ["all", "int"], mt := [], keep := false }
def d_number_in : DenS := (sSeq (sIf (tOr' (tCm .Eq (dVar 0) (dC (.str ""))) (tNt (tTru (dB1 fAll (dComp [1] (iVal (dVar 0)) (.name 1) tYs (dOf (tCm .In (dVar 1) (dC (.str "0123456789"))))))))) (sSeq (sRet (dC (.non)))
      sPass) sPass)
      (sSeq (sRet (dIf (tOr' (tCm .NotEq (dIx (dVar 0) (dC (.int 0))) (dC (.str "0"))) (tCm .Eq (dVar 0) (dC (.str "0")))) (dB1 fInt (dVar 0)) (dC (.non))))
      sPass))
def r_number_in (ds : List D) (h : Hs) : Res D := runD T_number_in d_number_in ds h
def T_bounded : Tab := { N := ["word", "least", "most", "found"], fn := [("number_in", 10, 1)], kw := [], cn := [], bl := [], mt := [], keep := false }
def d_bounded : DenS := (sSeq (sAsg (gNm 3) (dCall r_number_in 1 (aCons (dVar 0) aNil)))
      (sSeq (sRet (dIf (tAn (tCm .IsNot (dVar 3) (dC (.non))) (tChn .LtE .LtE (dVar 1) (dVar 3) (dVar 2))) (dVar 3) (dC (.non))))
      sPass))
def r_bounded (ds : List D) (h : Hs) : Res D := runD T_bounded d_bounded ds h
def T_head_in : Tab := { N := ["row", "words", "plates", "away"], fn := [("bounded", 11, 3)], kw := [], cn := [("MOST_AWAY", .int 2), ("MOST_PLATES", .int 10)], bl := ["isinstance", "len", "str"], mt := [], keep := false }
def d_head_in : DenS := (sSeq (sAsg (gNm 1) (dIf (tTru (dB1 (fIsi .str) (dVar 0))) (dTm (fun _ => splitD) (dVar 0) (dC (.str " "))) (dLst aNil)))
      (sSeq (sIf (tOr' (tCm .NotEq (dB1 fLen (dVar 1)) (dC (.int 4))) (tOr' (tCm .NotEq (dIx (dVar 1) (dC (.int 0))) (dC (.str "plates"))) (tCm .NotEq (dIx (dVar 1) (dC (.int 2))) (dC (.str "away"))))) (sSeq (sRet (dC (.non)))
      sPass) sPass)
      (sSeq (sPar [2, 3] (aCons (dCall r_bounded 3 (aCons (dIx (dVar 1) (dC (.int 1))) (aCons (dC (.int 2)) (aCons (dC (.int 10)) aNil)))) (aCons (dCall r_bounded 3 (aCons (dIx (dVar 1) (dC (.int 3))) (aCons (dC (.int 0)) (aCons (dC (.int 2)) aNil)))) aNil)))
      (sSeq (sRet (dIf (tOr' (tCm .Is (dVar 2) (dC (.non))) (tCm .Is (dVar 3) (dC (.non)))) (dC (.non)) (dTup (aCons (dVar 2) (aCons (dVar 3) aNil)))))
      sPass))))
def r_head_in (ds : List D) (h : Hs) : Res D := runD T_head_in d_head_in ds h
def T_where_in : Tab := { N := ["words"], fn := [("bounded", 11, 3)], kw := [], cn := [("MOST_UNDER", .int 9)], bl := ["int", "len"], mt := [], keep := false }
def d_where_in : DenS := (sSeq (sIf (tCm .Eq (dVar 0) (dLst (aCons (dC (.str "top")) aNil))) (sSeq (sRet (dC (.int 0)))
      sPass) sPass)
      (sSeq (sIf (tCm .Eq (dVar 0) (dLst (aCons (dC (.str "bottom")) aNil))) (sSeq (sRet (dC (.non)))
      sPass) sPass)
      (sSeq (sIf (tAn (tCm .Eq (dB1 fLen (dVar 0)) (dC (.int 2))) (tAn (tCm .Eq (dIx (dVar 0) (dC (.int 0))) (dC (.str "under"))) (tCm .IsNot (dCall r_bounded 3 (aCons (dIx (dVar 0) (dC (.int 1))) (aCons (dC (.int 1)) (aCons (dC (.int 9)) aNil)))) (dC (.non))))) (sSeq (sRet (dB1 fInt (dIx (dVar 0) (dC (.int 1)))))
      sPass) sPass)
      (sSeq (sRet (dTup aNil))
      sPass))))
def r_where_in (ds : List D) (h : Hs) : Res D := runD T_where_in d_where_in ds h
def T_day_in : Tab := { N := ["row", "words", "where", "least", "most"], fn := [("bounded", 11, 3), ("where_in", 13, 1)], kw := [], cn := [("MOST_TAKEN", .int 6), ("MOST_UNDER", .int 9), ("ORDERS", .tup [.str "kept", .str "turned"])], bl := ["int", "isinstance", "len", "str"], mt := [], keep := false }
def d_day_in : DenS := (sSeq (sAsg (gNm 1) (dIf (tTru (dB1 (fIsi .str) (dVar 0))) (dTm (fun _ => splitD) (dVar 0) (dC (.str " "))) (dLst (aCons (dC (.str "")) aNil))))
      (sSeq (sIf (tCm .In (dVar 1) (dTup (aCons (dLst (aCons (dC (.str "turn")) aNil)) (aCons (dLst (aCons (dC (.str "rest")) aNil)) aNil)))) (sSeq (sRet (dTup (aCons (dIx (dVar 1) (dC (.int 0))) (aCons (dC (.int 0)) (aCons (dC (.int 0)) (aCons (dC (.non)) (aCons (dC (.bl false)) aNil)))))))
      sPass) sPass)
      (sSeq (sIf (tAn (tCm .Eq (dB1 fLen (dVar 1)) (dC (.int 2))) (tAn (tCm .Eq (dIx (dVar 1) (dC (.int 0))) (dC (.str "cut"))) (tCm .IsNot (dCall r_bounded 3 (aCons (dIx (dVar 1) (dC (.int 1))) (aCons (dC (.int 1)) (aCons (dC (.int 9)) aNil)))) (dC (.non))))) (sSeq (sRet (dTup (aCons (dC (.str "cut")) (aCons (dB1 fInt (dIx (dVar 1) (dC (.int 1)))) (aCons (dC (.int 0)) (aCons (dC (.non)) (aCons (dC (.bl false)) aNil)))))))
      sPass) sPass)
      (sSeq (sIf (tOr' (tCm .Lt (dB1 fLen (dVar 1)) (dC (.int 7))) (tOr' (tCm .NotEq (dIx (dVar 1) (dC (.int 0))) (dC (.str "take"))) (tOr' (tCm .NotEq (dIx (dVar 1) (dC (.int 2))) (dC (.str "to"))) (tOr' (tCm .NotEq (dIx (dVar 1) (dC (.int 4))) (dC (.str "back"))) (tCm .NotIn (dIx (dVar 1) (dNeg (dC (.int 1)))) (dC (.tup [.str "kept", .str "turned"]))))))) (sSeq (sRet (dC (.non)))
      sPass) sPass)
      (sSeq (sPar [3, 4] (aCons (dCall r_bounded 3 (aCons (dIx (dVar 1) (dC (.int 1))) (aCons (dC (.int 0)) (aCons (dC (.int 6)) aNil)))) (aCons (dCall r_bounded 3 (aCons (dIx (dVar 1) (dC (.int 3))) (aCons (dC (.int 0)) (aCons (dC (.int 6)) aNil)))) aNil)))
      (sSeq (sAsg (gNm 2) (dCall r_where_in 1 (aCons (dSl (dVar 1) (oSome (dC (.int 5))) (oSome (dNeg (dC (.int 1))))) aNil)))
      (sSeq (sIf (tOr' (tCm .Is (dVar 3) (dC (.non))) (tOr' (tCm .Is (dVar 4) (dC (.non))) (tOr' (tCm .Gt (dVar 3) (dVar 4)) (tCm .Eq (dVar 2) (dTup aNil))))) (sSeq (sRet (dC (.non)))
      sPass) sPass)
      (sSeq (sRet (dTup (aCons (dC (.str "take")) (aCons (dVar 3) (aCons (dVar 4) (aCons (dVar 2) (aCons (dOf (tCm .Eq (dIx (dVar 1) (dNeg (dC (.int 1)))) (dC (.str "turned")))) aNil)))))))
      sPass))))))))
def r_day_in (ds : List D) (h : Hs) : Res D := runD T_day_in d_day_in ds h
def T_wrong_rows : Tab := { N := ["rows", "index", "row"], fn := [("head_in", 12, 1), ("day_in", 14, 1)], kw := [], cn := [("MOST_DAYS", .int 6)], bl := ["enumerate", "len"], mt := [], keep := false }
def d_wrong_rows : DenS := (sSeq (sIf (tNt (tChn .LtE .LtE (dC (.int 2)) (dB1 fLen (dVar 0)) (dBin .Add (dC (.int 6)) (dC (.int 1))))) (sSeq (sRet (dTup (aCons (dC (.non)) aNil)))
      sPass) sPass)
      (sSeq (sIf (tCm .Is (dCall r_head_in 1 (aCons (dIx (dVar 0) (dC (.int 0))) aNil)) (dC (.non))) (sSeq (sRet (dTup (aCons (dC (.int 0)) aNil)))
      sPass) sPass)
      (sSeq (sFor (iEnu (dVar 0)) (gTp 2 (gCons' (gNm 1) (gCons' (gNm 2) gNil'))) (sSeq (sIf (tAn (tCm .Gt (dVar 1) (dC (.int 0))) (tCm .Is (dCall r_day_in 1 (aCons (dVar 2) aNil)) (dC (.non)))) (sSeq (sRet (dTup (aCons (dVar 1) aNil)))
      sPass) sPass)
      sPass))
      (sSeq (sRet (dTup aNil))
      sPass))))
def r_wrong_rows (ds : List D) (h : Hs) : Res D := runD T_wrong_rows d_wrong_rows ds h
def T_Rule___init__ : Tab := { N := ["self", "rows", "wrong", "row"], fn := [("head_in", 12, 1), ("day_in", 14, 1), ("wrong_rows", 15, 1)], kw := [], cn := [], bl := [], mt := [], keep := false, at_ := [("late", ["Rule"], []), ("many", ["Rule"], []), ("plan", ["Rule"], []), ("told", ["Rule"], [])] }
def d_Rule___init__ : DenS := (sSeq (sAsg (gNm 2) (dCall r_wrong_rows 1 (aCons (dVar 1) aNil)))
      (sSeq (sIf (tTru (dVar 2)) (sSeq sBad
      sPass) sPass)
      (sSeq (sAsg (gAt "told" ["Rule"] (dVar 0)) (dVar 1))
      (sSeq (sAsg (gTp 2 (gCons' (gAt "many" ["Rule"] (dVar 0)) (gCons' (gAt "late" ["Rule"] (dVar 0)) gNil'))) (dCall r_head_in 1 (aCons (dIx (dVar 1) (dC (.int 0))) aNil)))
      (sSeq (sAsg (gAt "plan" ["Rule"] (dVar 0)) (dComp [3] (iVal (dSl (dVar 1) (oSome (dC (.int 1))) oNo)) (.name 3) tYs (dCall r_day_in 1 (aCons (dVar 3) aNil))))
      sPass)))))
def r_Rule___init__ (ds : List D) (h : Hs) : Res D := runD T_Rule___init__ d_Rule___init__ ds h
def T__law_draw : Tab := { N := ["_law_spring_here", "_law_size", "_law_far", "_law_mixed", "_law_digit"], fn := [], kw := [], cn := [], bl := ["divmod", "int"], mt := [], keep := false }
def d__law_draw : DenS := (sSeq (sAsg (gSb (dVar 0) (dC (.int 2))) (dBin .Add (dIx (dVar 0) (dC (.int 2))) (dC (.int 1))))
      (sSeq (sAsg (gSb (dVar 0) (dC (.int 1))) (dBin .Mod (dB1 fInt (dBin .Add (dBin .Add (dBin .Mult (dIx (dVar 0) (dC (.int 1))) (dC (.int 69621))) (dBin .Mult (dC (.int 40503)) (dIx (dVar 0) (dC (.int 2))))) (dC (.int 1)))) (dC (.int 2147483647))))
      (sSeq (sIf (tCm .Gt (dIx (dVar 0) (dC (.int 0))) (dC (.int 0))) (sSeq (sAsg (gTp 2 (gCons' (gSb (dVar 0) (dC (.int 0))) (gCons' (gNm 4) gNil'))) (dB2 fDm (dIx (dVar 0) (dC (.int 0))) (dVar 1)))
      (sSeq (sRet (dVar 4))
      sPass)) sPass)
      (sSeq (sAsg (gNm 2) (dBin .Add (dIx (dVar 0) (dC (.int 1))) (dC (.int 12345))))
      (sSeq (sAsg (gNm 3) (dBin .Mod (dB1 fInt (dBin .Add (dBin .Mult (dVar 2) (dIx (dVar 0) (dC (.int 1)))) (dIx (dVar 0) (dC (.int 2))))) (dC (.int 2147483629))))
      (sSeq (sRet (dBin .Mod (dB1 fInt (dBin .FloorDiv (dVar 3) (dC (.int 256)))) (dVar 1)))
      sPass))))))
def r__law_draw (ds : List D) (h : Hs) : Res D := runD T__law_draw d__law_draw ds h
def T__law_of : Tab := { N := ["_law_spring_here", "_law_menu"], fn := [("_law_draw", 17, 2)], kw := [], cn := [], bl := ["len"], mt := [], keep := false }
def d__law_of : DenS := (sSeq (sRet (dIx (dVar 1) (dCall r__law_draw 2 (aCons (dVar 0) (aCons (dB1 fLen (dVar 1)) aNil)))))
      sPass)
def r__law_of (ds : List D) (h : Hs) : Res D := runD T__law_of d__law_of ds h
def T__law_take : Tab := { N := ["_law_spring_here", "_law_many", "_law_least", "_law_most", "_law_where"], fn := [("_law_draw", 17, 2), ("_law_of", 18, 2)], kw := [], cn := [], bl := ["str"], mt := [], keep := false }
def d__law_take : DenS := (sSeq (sAsg (gNm 2) (dIf (tCm .Gt (dVar 1) (dC (.int 2))) (dCall r__law_of 2 (aCons (dVar 0) (aCons (dLst (aCons (dC (.int 0)) (aCons (dC (.int 1)) (aCons (dC (.int 1)) (aCons (dC (.int 1)) (aCons (dC (.int 2)) aNil)))))) aNil))) (dCall r__law_of 2 (aCons (dVar 0) (aCons (dLst (aCons (dC (.int 0)) (aCons (dC (.int 1)) (aCons (dC (.int 1)) aNil)))) aNil)))))
      (sSeq (sAsg (gNm 3) (dBin .Add (dVar 2) (dCall r__law_draw 2 (aCons (dVar 0) (aCons (dC (.int 3)) aNil)))))
      (sSeq (sAsg (gNm 4) (dCall r__law_of 2 (aCons (dVar 0) (aCons (dLst (aCons (dC (.str "top")) (aCons (dC (.str "bottom")) (aCons (dC (.str "bottom")) (aCons (dC (.str "under 1")) (aCons (dC (.str "under 2")) (aCons (dBin .Add (dC (.str "under ")) (dB1 fStr (dBin .Add (dC (.int 1)) (dCall r__law_draw 2 (aCons (dVar 0) (aCons (dC (.int 4)) aNil)))))) aNil))))))) aNil))))
      (sSeq (sRet (dBin .Add (dBin .Add (dBin .Add (dBin .Add (dBin .Add (dBin .Add (dBin .Add (dC (.str "take ")) (dB1 fStr (dVar 2))) (dC (.str " to "))) (dB1 fStr (dVar 3))) (dC (.str " back "))) (dVar 4)) (dC (.str " "))) (dCall r__law_of 2 (aCons (dVar 0) (aCons (dLst (aCons (dC (.str "kept")) (aCons (dC (.str "turned")) aNil))) aNil)))))
      sPass))))
def r__law_take (ds : List D) (h : Hs) : Res D := runD T__law_take d__law_take ds h
def T__law_rows : Tab := { N := ["_law_spring_here", "_law_many", "_law_found", "_law_k", "_law_some"], fn := [("_law_draw", 17, 2), ("_law_of", 18, 2), ("_law_take", 19, 2)], kw := [], cn := [], bl := ["range", "str"], mt := ["_law_found"], keep := false }
def d__law_rows : DenS := (sSeq (sAsg (gNm 1) (dCall r__law_of 2 (aCons (dVar 0) (aCons (dLst (aCons (dC (.int 2)) (aCons (dC (.int 3)) (aCons (dC (.int 3)) (aCons (dC (.int 3)) (aCons (dC (.int 4)) aNil)))))) aNil))))
      (sSeq (sAsg (gNm 2) (dNew (nLst (aCons (dBin .Add (dBin .Add (dBin .Add (dC (.str "plates ")) (dB1 fStr (dVar 1))) (dC (.str " away "))) (dCall r__law_of 2 (aCons (dVar 0) (aCons (dLst (aCons (dC (.str "0")) (aCons (dC (.str "0")) (aCons (dC (.str "0")) (aCons (dC (.str "1")) aNil))))) aNil)))) (aCons (dCall r__law_take 2 (aCons (dVar 0) (aCons (dVar 1) aNil))) aNil)))))
      (sSeq (sFor (iR1 (dCall r__law_draw 2 (aCons (dVar 0) (aCons (dC (.int 3)) aNil)))) (gNm 3) (sSeq (sAsg (gNm 4) (dLst (aCons (dCall r__law_take 2 (aCons (dVar 0) (aCons (dVar 1) aNil))) (aCons (dCall r__law_take 2 (aCons (dVar 0) (aCons (dVar 1) aNil))) (aCons (dC (.str "turn")) (aCons (dC (.str "rest")) (aCons (dBin .Add (dC (.str "cut ")) (dB1 fStr (dBin .Add (dC (.int 1)) (dCall r__law_draw 2 (aCons (dVar 0) (aCons (dC (.int 3)) aNil)))))) aNil)))))))
      (sSeq (sExpr (dApp (dVar 2) (dCall r__law_of 2 (aCons (dVar 0) (aCons (dVar 4) aNil)))))
      sPass)))
      (sSeq (sRet (dVar 2))
      sPass))))
def r__law_rows (ds : List D) (h : Hs) : Res D := runD T__law_rows d__law_rows ds h
def T_Rule_read : Tab := { N := ["cls", "text", "rows"], fn := [("wrong_rows", 15, 1)], kw := [], cn := [], bl := ["isinstance", "str"], mt := [], keep := false, mkr := [("Rule", 1, 16, true)] }
def d_Rule_read : DenS := (sSeq (sAsg (gNm 2) (dIf (tTru (dB1 (fIsi .str) (dVar 1))) (dTm (fun _ => splitD) (dVar 1) (dC (.str "\n"))) (dLst aNil)))
      (sSeq (sIf (tTru (dCall r_wrong_rows 1 (aCons (dVar 2) aNil))) (sSeq sBad
      sPass) sPass)
      (sSeq (sRet (dMkS "Rule" (arB true 1 r_Rule___init__) (dVar 2)))
      sPass)))
def r_Rule_read (ds : List D) (h : Hs) : Res D := runD T_Rule_read d_Rule_read ds h
def T__law_made : Tab := { N := ["_law_rows_now"], fn := [], kw := [], cn := [], bl := [], mt := [], keep := false, cm := [("Rule", "read", 2, 21)] }
def d__law_made : DenS := (sSeq (sRet (dCm "Rule" 2 r_Rule_read (aCons (dTm joinD (dC (.str "\n")) (dVar 0)) aNil)))
      sPass)
def r__law_made (ds : List D) (h : Hs) : Res D := runD T__law_made d__law_made ds h
def T__law_by_rows : Tab := { N := ["_law_some"], fn := [("_law_made", 22, 1)], kw := [], cn := [], bl := ["len"], mt := [], keep := false, mkr := [("Rule", 1, 16, true)] }
def d__law_by_rows : DenS := (sSeq (sIf (tCm .Eq (dB1 fLen (dVar 0)) (dC (.int 2))) (sSeq (sRet (dMk "Rule" (arB true 1 r_Rule___init__) (aCons (dIx (dVar 0) (dC (.int 0))) (aCons (dIx (dVar 0) (dC (.int 1))) aNil))))
      sPass) sPass)
      (sSeq (sIf (tCm .Eq (dB1 fLen (dVar 0)) (dC (.int 3))) (sSeq (sRet (dMk "Rule" (arB true 1 r_Rule___init__) (aCons (dIx (dVar 0) (dC (.int 0))) (aCons (dIx (dVar 0) (dC (.int 1))) (aCons (dIx (dVar 0) (dC (.int 2))) aNil)))))
      sPass) sPass)
      (sSeq (sRet (dIf (tCm .Eq (dB1 fLen (dVar 0)) (dC (.int 4))) (dMk "Rule" (arB true 1 r_Rule___init__) (aCons (dIx (dVar 0) (dC (.int 0))) (aCons (dIx (dVar 0) (dC (.int 1))) (aCons (dIx (dVar 0) (dC (.int 2))) (aCons (dIx (dVar 0) (dC (.int 3))) aNil))))) (dCall r__law_made 1 (aCons (dVar 0) aNil))))
      sPass)))
def r__law_by_rows (ds : List D) (h : Hs) : Res D := runD T__law_by_rows d__law_by_rows ds h
def T_Rule___eq__ : Tab := { N := ["self", "other"], fn := [], kw := [], cn := [], bl := ["isinstance"], mt := [], keep := false, at_ := [("rows", [], [("Rule", 5)]), ("told", ["Rule"], [])], io := [("Rule", ["Rule"])] }
def d_Rule___eq__ : DenS := (sSeq (sRet (dAn (dB1 (fIsO ["Rule"] "Rule") (dVar 1)) (dOf (tCm .Eq (dAtt "told" ["Rule"] [] (dVar 0)) (dAtt "rows" [] [("Rule", r_Rule_rows)] (dVar 1))))))
      sPass)
def r_Rule___eq__ (ds : List D) (h : Hs) : Res D := runD T_Rule___eq__ d_Rule___eq__ ds h
def T__law_right : Tab := { N := ["_law_spring_here", "_law_same", "_law_some", "_law_far", "_law_mine", "_law_yours", "_law_thing"], fn := [("_law_shows", 9, 2), ("_law_rows", 20, 1), ("_law_by_rows", 23, 1)], kw := [], cn := [], bl := ["any", "len"], mt := [], keep := false, at_ := [("plates", [], [("Rule", 7)]), ("rows", [], [("Rule", 5)]), ("text", [], [("Rule", 6)])], cmk := [("Rule", "read", ["text"], [0], 2, 21)], sp := [("__eq__", [("Rule", 2, 24)]), ("__len__", [("Rule", 1, 3)])] }
def d__law_right : DenS := (sSeq (sPar [2, 3] (aCons (dCall r__law_rows 1 (aCons (dVar 0) aNil)) (aCons (dCall r__law_rows 1 (aCons (dVar 0) aNil)) aNil)))
      (sSeq (sAsg (gTp 2 (gCons' (gNm 4) (gCons' (gNm 5) gNil'))) (dTup (aCons (dCall r__law_by_rows 1 (aCons (dVar 2) aNil)) (aCons (dCall r__law_by_rows 1 (aCons (dVar 3) aNil)) aNil))))
      (sSeq (sIf (tOr' (tNt (tTru (dCall r__law_shows 2 (aCons (dVar 4) (aCons (dVar 2) aNil))))) (tNt (tTru (dCall r__law_shows 2 (aCons (dVar 5) (aCons (dVar 3) aNil)))))) (sSeq (sRet (dC (.bl false)))
      sPass) sPass)
      (sSeq (sAsg (gNm 1) (dOf (tEqI [("Rule", 2, r_Rule___eq__)] (dVar 2) (dVar 3))))
      (sSeq (sIf (tNeI [("Rule", 2, r_Rule___eq__)] (dLst (aCons (dOf (tEqI [("Rule", 2, r_Rule___eq__)] (dVar 4) (dVar 5))) (aCons (dOf (tNeI [("Rule", 2, r_Rule___eq__)] (dVar 4) (dVar 5))) (aCons (dOf (tEqI [("Rule", 2, r_Rule___eq__)] (dVar 4) (dCmK "Rule" 2 r_Rule_read 1 [0] (aCons (dTm joinD (dC (.str "\n")) (dVar 2)) aNil)))) aNil)))) (dLst (aCons (dVar 1) (aCons (dNt (dVar 1)) (aCons (dC (.bl true)) aNil))))) (sSeq (sRet (dC (.bl false)))
      sPass) sPass)
      (sSeq (sRet (dNt (dB1 fAny (dComp [6] (iVal (dLst (aCons (dC (.non)) (aCons (dAtt "text" [] [("Rule", r_Rule_text)] (dVar 4)) (aCons (dAtt "rows" [] [("Rule", r_Rule_rows)] (dVar 4)) (aCons (dAtt "plates" [] [("Rule", r_Rule_plates)] (dVar 4)) (aCons (dSpI fLen isLn [("Rule", 1, r_Rule___len__)] (dVar 4)) (aCons (dVar 2) aNil)))))))) (.name 6) tYs (dOf (tEqI [("Rule", 2, r_Rule___eq__)] (dVar 4) (dVar 6)))))))
      sPass))))))
def r__law_right (ds : List D) (h : Hs) : Res D := runD T__law_right d__law_right ds h
def T__law_spring : Tab := { N := ["_law_cells", "_law_k", "_law_cell", "_law_mixed", "_law_number"], fn := [], kw := [], cn := [], bl := ["abs", "int", "len"], mt := [], keep := true }
def d__law_spring : DenS := (sSeq (sAsg (gNm 2) (dIf (tCm .Lt (dVar 1) (dB1 fLen (dVar 0))) (dIx (dVar 0) (dVar 1)) (dBin .Add (dBin .Mult (dC (.int 7)) (dVar 1)) (dC (.int 2)))))
      (sSeq (sAsg (gNm 3) (dBin .Add (dC (.int 90001)) (dBin .Mult (dC (.int 7919)) (dVar 1))))
      (sSeq (sFor (iVal (dBin .Add (dSl (dVar 0) oNo (oSome (dC (.int 8)))) (dLst (aCons (dVar 2) aNil)))) (gNm 4) (sSeq (sAsg (gNm 3) (dBin .Mod (dB1 fInt (dBin .Add (dBin .Add (dBin .Mult (dVar 3) (dC (.int 48271))) (dB1 fInt (dVar 4))) (dBin .Mult (dC (.int 11)) (dVar 1)))) (dC (.int 2147483647))))
      sPass))
      (sSeq (sRet (dNew (nLst (aCons (dIf (tOr' (tCm .Lt (dVar 2) (dC (.int 0))) (tCm .GtE (dVar 2) (dBin .Pow (dC (.int 10)) (dC (.int 18))))) (dB1 fAbs (dVar 2)) (dC (.int 0))) (aCons (dVar 3) (aCons (dC (.int 0)) aNil))))))
      sPass))))
def r__law_spring (ds : List D) (h : Hs) : Res D := runD T__law_spring d__law_spring ds h
def T_law : Tab := { N := ["_law_script", "_law_some", "_law_k"], fn := [("_law_shows", 9, 2), ("_law_made", 22, 1), ("_law_right", 25, 1), ("_law_spring", 26, 2)], kw := [], cn := [], bl := ["all", "len", "max", "min", "range"], mt := [], keep := false, mkr := [("Rule", 1, 16, true)], sp := [("__eq__", [("Rule", 2, 24)])] }
def d_law : DenS := (sSeq (sAsg (gNm 1) (dLst (aCons (dC (.str "plates 10 away 2")) (aCons (dC (.str "take 0 to 6 back under 9 turned")) (aCons (dC (.str "take 6 to 6 back top kept")) (aCons (dC (.str "cut 9")) (aCons (dC (.str "turn")) (aCons (dC (.str "rest")) (aCons (dC (.str "cut 1")) aNil)))))))))
      (sSeq (sIf (tOr' (tNt (tTru (dCall r__law_shows 2 (aCons (dCall r__law_made 1 (aCons (dVar 1) aNil)) (aCons (dVar 1) aNil))))) (tEqI [("Rule", 2, r_Rule___eq__)] (dMk "Rule" (arB true 1 r_Rule___init__) (aCons (dC (.str "plates 2 away 0")) (aCons (dC (.str "rest")) aNil))) (dMk "Rule" (arB true 1 r_Rule___init__) (aCons (dC (.str "plates 2 away 1")) (aCons (dC (.str "rest")) aNil))))) (sSeq (sRet (dC (.bl false)))
      sPass) sPass)
      (sSeq (sRet (dB1 fAll (dComp [2] (iR1 (dB2 fMax2 (dC (.int 2)) (dB2 fMin2 (dB1 fLen (dVar 0)) (dC (.int 5))))) (.name 2) tYs (dCall r__law_right 1 (aCons (dCall r__law_spring 2 (aCons (dVar 0) (aCons (dVar 2) aNil))) aNil)))))
      sPass)))
def r_law (ds : List D) (h : Hs) : Res D := runD T_law d_law ds h
def ρ : Ro := fun i => match i with
  | 0 => r__law_head
  | 1 => r_Rule___str__
  | 2 => r_Rule___bool__
  | 3 => r_Rule___len__
  | 4 => r_Rule___repr__
  | 5 => r_Rule_rows
  | 6 => r_Rule_text
  | 7 => r_Rule_plates
  | 8 => r_Rule_away
  | 9 => r__law_shows
  | 10 => r_number_in
  | 11 => r_bounded
  | 12 => r_head_in
  | 13 => r_where_in
  | 14 => r_day_in
  | 15 => r_wrong_rows
  | 16 => r_Rule___init__
  | 17 => r__law_draw
  | 18 => r__law_of
  | 19 => r__law_take
  | 20 => r__law_rows
  | 21 => r_Rule_read
  | 22 => r__law_made
  | 23 => r__law_by_rows
  | 24 => r_Rule___eq__
  | 25 => r__law_right
  | 26 => r__law_spring
  | 27 => r_law
  | _ => fun _ _ => .bad
theorem t__law_head : trDef T__law_head ρ (defScope (top 27)) (defBody (top 27)) = some d__law_head := by kernel_rfl
theorem t_Rule___str__ : trDef T_Rule___str__ ρ (defScope (L2.inClass (top 19) 10)) (defBody (L2.inClass (top 19) 10)) = some d_Rule___str__ := by kernel_rfl
theorem t_Rule___bool__ : trDef T_Rule___bool__ ρ (defScope (L2.inClass (top 19) 8)) (defBody (L2.inClass (top 19) 8)) = some d_Rule___bool__ := by kernel_rfl
theorem t_Rule___len__ : trDef T_Rule___len__ ρ (defScope (L2.inClass (top 19) 7)) (defBody (L2.inClass (top 19) 7)) = some d_Rule___len__ := by kernel_rfl
theorem t_Rule___repr__ : trDef T_Rule___repr__ ρ (defScope (L2.inClass (top 19) 11)) (defBody (L2.inClass (top 19) 11)) = some d_Rule___repr__ := by kernel_rfl
theorem t_Rule_rows : trDef T_Rule_rows ρ (defScope (L2.inClass (top 19) 2)) (defBody (L2.inClass (top 19) 2)) = some d_Rule_rows := by kernel_rfl
theorem t_Rule_text : trDef T_Rule_text ρ (defScope (L2.inClass (top 19) 3)) (defBody (L2.inClass (top 19) 3)) = some d_Rule_text := by kernel_rfl
theorem t_Rule_plates : trDef T_Rule_plates ρ (defScope (L2.inClass (top 19) 4)) (defBody (L2.inClass (top 19) 4)) = some d_Rule_plates := by kernel_rfl
theorem t_Rule_away : trDef T_Rule_away ρ (defScope (L2.inClass (top 19) 5)) (defBody (L2.inClass (top 19) 5)) = some d_Rule_away := by kernel_rfl
theorem t__law_shows : trDef T__law_shows ρ (defScope (top 29)) (defBody (top 29)) = some d__law_shows := by kernel_rfl
theorem t_number_in : trDef T_number_in ρ (defScope (top 13)) (defBody (top 13)) = some d_number_in := by kernel_rfl
theorem t_bounded : trDef T_bounded ρ (defScope (top 14)) (defBody (top 14)) = some d_bounded := by kernel_rfl
theorem t_head_in : trDef T_head_in ρ (defScope (top 15)) (defBody (top 15)) = some d_head_in := by kernel_rfl
theorem t_where_in : trDef T_where_in ρ (defScope (top 16)) (defBody (top 16)) = some d_where_in := by kernel_rfl
theorem t_day_in : trDef T_day_in ρ (defScope (top 17)) (defBody (top 17)) = some d_day_in := by kernel_rfl
theorem t_wrong_rows : trDef T_wrong_rows ρ (defScope (top 18)) (defBody (top 18)) = some d_wrong_rows := by kernel_rfl
theorem t_Rule___init__ : trDef T_Rule___init__ ρ (defScope (L2.inClass (top 19) 0)) (defBody (L2.inClass (top 19) 0)) = some d_Rule___init__ := by kernel_rfl
theorem t__law_draw : trDef T__law_draw ρ (defScope (top 22)) (defBody (top 22)) = some d__law_draw := by kernel_rfl
theorem t__law_of : trDef T__law_of ρ (defScope (top 23)) (defBody (top 23)) = some d__law_of := by kernel_rfl
theorem t__law_take : trDef T__law_take ρ (defScope (top 24)) (defBody (top 24)) = some d__law_take := by kernel_rfl
theorem t__law_rows : trDef T__law_rows ρ (defScope (top 25)) (defBody (top 25)) = some d__law_rows := by kernel_rfl
theorem t_Rule_read : trDef T_Rule_read ρ (defScope (L2.inClass (top 19) 1)) (defBody (L2.inClass (top 19) 1)) = some d_Rule_read := by kernel_rfl
theorem t__law_made : trDef T__law_made ρ (defScope (top 26)) (defBody (top 26)) = some d__law_made := by kernel_rfl
theorem t__law_by_rows : trDef T__law_by_rows ρ (defScope (top 28)) (defBody (top 28)) = some d__law_by_rows := by kernel_rfl
theorem t_Rule___eq__ : trDef T_Rule___eq__ ρ (defScope (L2.inClass (top 19) 9)) (defBody (L2.inClass (top 19) 9)) = some d_Rule___eq__ := by kernel_rfl
theorem t__law_right : trDef T__law_right ρ (defScope (top 30)) (defBody (top 30)) = some d__law_right := by kernel_rfl
theorem t__law_spring : trDef T__law_spring ρ (defScope (top 21)) (defBody (top 21)) = some d__law_spring := by kernel_rfl
theorem t_law : trDef T_law ρ (defScope (top 31)) (defBody (top 31)) = some d_law := by kernel_rfl
def q__law_head : He5.DefA := ⟨fun K => He.ga K "_law_head", "_law_head", "_law_head", defArgs (top 27), defBody (top 27), defScope (top 27), [], []⟩
def q_Rule___str__ : He5.DefA := ⟨fun K => He.ma K (He.ga K "Rule") "__str__", "__str__", "Rule.__str__", defArgs (L2.inClass (top 19) 10), defBody (L2.inClass (top 19) 10), defScope (L2.inClass (top 19) 10), [], []⟩
def q_Rule___bool__ : He5.DefA := ⟨fun K => He.ma K (He.ga K "Rule") "__bool__", "__bool__", "Rule.__bool__", defArgs (L2.inClass (top 19) 8), defBody (L2.inClass (top 19) 8), defScope (L2.inClass (top 19) 8), [], []⟩
def q_Rule___len__ : He5.DefA := ⟨fun K => He.ma K (He.ga K "Rule") "__len__", "__len__", "Rule.__len__", defArgs (L2.inClass (top 19) 7), defBody (L2.inClass (top 19) 7), defScope (L2.inClass (top 19) 7), [], []⟩
def q_Rule___repr__ : He5.DefA := ⟨fun K => He.ma K (He.ga K "Rule") "__repr__", "__repr__", "Rule.__repr__", defArgs (L2.inClass (top 19) 11), defBody (L2.inClass (top 19) 11), defScope (L2.inClass (top 19) 11), [], []⟩
def q_Rule_rows : He5.DefA := ⟨fun K => prF "Rule" "rows" K, "rows", "Rule.rows", defArgs (L2.inClass (top 19) 2), defBody (L2.inClass (top 19) 2), defScope (L2.inClass (top 19) 2), [], []⟩
def q_Rule_text : He5.DefA := ⟨fun K => prF "Rule" "text" K, "text", "Rule.text", defArgs (L2.inClass (top 19) 3), defBody (L2.inClass (top 19) 3), defScope (L2.inClass (top 19) 3), [], []⟩
def q_Rule_plates : He5.DefA := ⟨fun K => prF "Rule" "plates" K, "plates", "Rule.plates", defArgs (L2.inClass (top 19) 4), defBody (L2.inClass (top 19) 4), defScope (L2.inClass (top 19) 4), [], []⟩
def q_Rule_away : He5.DefA := ⟨fun K => prF "Rule" "away" K, "away", "Rule.away", defArgs (L2.inClass (top 19) 5), defBody (L2.inClass (top 19) 5), defScope (L2.inClass (top 19) 5), [], []⟩
def q__law_shows : He5.DefA := ⟨fun K => He.ga K "_law_shows", "_law_shows", "_law_shows", defArgs (top 29), defBody (top 29), defScope (top 29), [], []⟩
def q_number_in : He5.DefA := ⟨fun K => He.ga K "number_in", "number_in", "number_in", defArgs (top 13), defBody (top 13), defScope (top 13), [], []⟩
def q_bounded : He5.DefA := ⟨fun K => He.ga K "bounded", "bounded", "bounded", defArgs (top 14), defBody (top 14), defScope (top 14), [], []⟩
def q_head_in : He5.DefA := ⟨fun K => He.ga K "head_in", "head_in", "head_in", defArgs (top 15), defBody (top 15), defScope (top 15), [], []⟩
def q_where_in : He5.DefA := ⟨fun K => He.ga K "where_in", "where_in", "where_in", defArgs (top 16), defBody (top 16), defScope (top 16), [], []⟩
def q_day_in : He5.DefA := ⟨fun K => He.ga K "day_in", "day_in", "day_in", defArgs (top 17), defBody (top 17), defScope (top 17), [], []⟩
def q_wrong_rows : He5.DefA := ⟨fun K => He.ga K "wrong_rows", "wrong_rows", "wrong_rows", defArgs (top 18), defBody (top 18), defScope (top 18), [], []⟩
def q_Rule___init__ : He5.DefA := ⟨fun K => He.ma K (He.ga K "Rule") "__init__", "__init__", "Rule.__init__", defArgs (L2.inClass (top 19) 0), defBody (L2.inClass (top 19) 0), defScope (L2.inClass (top 19) 0), [], []⟩
def q__law_draw : He5.DefA := ⟨fun K => He.ga K "_law_draw", "_law_draw", "_law_draw", defArgs (top 22), defBody (top 22), defScope (top 22), [], []⟩
def q__law_of : He5.DefA := ⟨fun K => He.ga K "_law_of", "_law_of", "_law_of", defArgs (top 23), defBody (top 23), defScope (top 23), [], []⟩
def q__law_take : He5.DefA := ⟨fun K => He.ga K "_law_take", "_law_take", "_law_take", defArgs (top 24), defBody (top 24), defScope (top 24), [], []⟩
def q__law_rows : He5.DefA := ⟨fun K => He.ga K "_law_rows", "_law_rows", "_law_rows", defArgs (top 25), defBody (top 25), defScope (top 25), [], []⟩
def q_Rule_read : He5.DefA := ⟨fun K => cmF "Rule" "read" K, "read", "Rule.read", defArgs (L2.inClass (top 19) 1), defBody (L2.inClass (top 19) 1), defScope (L2.inClass (top 19) 1), [], []⟩
def q__law_made : He5.DefA := ⟨fun K => He.ga K "_law_made", "_law_made", "_law_made", defArgs (top 26), defBody (top 26), defScope (top 26), [], []⟩
def q__law_by_rows : He5.DefA := ⟨fun K => He.ga K "_law_by_rows", "_law_by_rows", "_law_by_rows", defArgs (top 28), defBody (top 28), defScope (top 28), [], []⟩
def q_Rule___eq__ : He5.DefA := ⟨fun K => He.ma K (He.ga K "Rule") "__eq__", "__eq__", "Rule.__eq__", defArgs (L2.inClass (top 19) 9), defBody (L2.inClass (top 19) 9), defScope (L2.inClass (top 19) 9), [], []⟩
def q__law_right : He5.DefA := ⟨fun K => He.ga K "_law_right", "_law_right", "_law_right", defArgs (top 30), defBody (top 30), defScope (top 30), [], []⟩
def q__law_spring : He5.DefA := ⟨fun K => He.ga K "_law_spring", "_law_spring", "_law_spring", defArgs (top 21), defBody (top 21), defScope (top 21), [], []⟩
def q_law : He5.DefA := ⟨fun K => He.ga K "law", "law", "law", defArgs (top 31), defBody (top 31), defScope (top 31), [], []⟩
def fn : List He5.DefA := [q__law_head, q_Rule___str__, q_Rule___bool__, q_Rule___len__, q_Rule___repr__, q_Rule_rows, q_Rule_text, q_Rule_plates, q_Rule_away, q__law_shows, q_number_in, q_bounded, q_head_in, q_where_in, q_day_in, q_wrong_rows, q_Rule___init__, q__law_draw, q__law_of, q__law_take, q__law_rows, q_Rule_read, q__law_made, q__law_by_rows, q_Rule___eq__, q__law_right, q__law_spring, q_law]
def bls : List Str := ["abs", "all", "any", "bool", "divmod", "enumerate", "int", "isinstance", "len", "max", "min", "range", "repr", "str", "tuple"]
def fx0 : List (PySem.W.Frag → Bool) := [fun K => (He.Fa.glo "_law_head").ok K, clsB "Rule", fun K => (He.Fa.noat "Rule" "told").ok K, fun K => (He.Fa.glo "Rule").ok K, fun K => (He.Fa.meth "Rule" "__str__").ok K, fun K => (He.Fa.meth "Rule" "__bool__").ok K, fun K => (He.Fa.noat "Rule" "plan").ok K, fun K => (He.Fa.meth "Rule" "__len__").ok K, fun K => (He.Fa.meth "Rule" "__repr__").ok K, prB "Rule" "rows", prB "Rule" "text", fun K => (He.Fa.noat "Rule" "many").ok K, prB "Rule" "plates", fun K => (He.Fa.noat "Rule" "late").ok K, prB "Rule" "away", fun K => (He.Fa.glo "_law_shows").ok K, fun K => (He.Fa.str "FIGURES" "0123456789").ok K, fun K => (He.Fa.glo "number_in").ok K, fun K => (He.Fa.glo "bounded").ok K, fun K => (He.Fa.int "MOST_PLATES" 10).ok K]
def fx1 : List (PySem.W.Frag → Bool) := [fun K => (He.Fa.int "MOST_AWAY" 2).ok K, fun K => (He.Fa.glo "head_in").ok K, fun K => (He.Fa.int "MOST_UNDER" 9).ok K, fun K => (He.Fa.glo "where_in").ok K, tupB "ORDERS" ["kept", "turned"], fun K => (He.Fa.int "MOST_TAKEN" 6).ok K, fun K => (He.Fa.glo "day_in").ok K, fun K => (He.Fa.int "MOST_DAYS" 6).ok K, fun K => (He.Fa.glo "wrong_rows").ok K, fun K => (He.Fa.mkr "Rule").ok K, fun K => (He.Fa.glo "_law_draw").ok K, fun K => (He.Fa.glo "_law_of").ok K, fun K => (He.Fa.glo "_law_take").ok K, fun K => (He.Fa.glo "_law_rows").ok K, cmB "Rule" "read", fun K => (He.Fa.glo "_law_made").ok K, fun K => (He.Fa.glo "_law_by_rows").ok K, isB "Rule" ["Rule"], fun K => (He.Fa.meth "Rule" "__eq__").ok K, fun K => (He.Fa.glo "_law_right").ok K]
def fx2 : List (PySem.W.Frag → Bool) := [fun K => (He.Fa.glo "_law_spring").ok K, fun K => (He.Fa.glo "law").ok K]
def fa : List (PySem.W.Frag → Bool) := bls.map (fun x K => (He.Fa.free x).ok K) ++ (fx0 ++ (fx1 ++ (fx2)))
theorem sub__law_head : ∀ x ∈ T__law_head.bl, x ∈ bls := by decide +kernel
theorem sub_Rule___str__ : ∀ x ∈ T_Rule___str__.bl, x ∈ bls := by decide +kernel
theorem sub_Rule___bool__ : ∀ x ∈ T_Rule___bool__.bl, x ∈ bls := by decide +kernel
theorem sub_Rule___len__ : ∀ x ∈ T_Rule___len__.bl, x ∈ bls := by decide +kernel
theorem sub_Rule___repr__ : ∀ x ∈ T_Rule___repr__.bl, x ∈ bls := by decide +kernel
theorem sub_Rule_rows : ∀ x ∈ T_Rule_rows.bl, x ∈ bls := by decide +kernel
theorem sub_Rule_text : ∀ x ∈ T_Rule_text.bl, x ∈ bls := by decide +kernel
theorem sub_Rule_plates : ∀ x ∈ T_Rule_plates.bl, x ∈ bls := by decide +kernel
theorem sub_Rule_away : ∀ x ∈ T_Rule_away.bl, x ∈ bls := by decide +kernel
theorem sub__law_shows : ∀ x ∈ T__law_shows.bl, x ∈ bls := by decide +kernel
theorem sub_number_in : ∀ x ∈ T_number_in.bl, x ∈ bls := by decide +kernel
theorem sub_bounded : ∀ x ∈ T_bounded.bl, x ∈ bls := by decide +kernel
theorem sub_head_in : ∀ x ∈ T_head_in.bl, x ∈ bls := by decide +kernel
theorem sub_where_in : ∀ x ∈ T_where_in.bl, x ∈ bls := by decide +kernel
theorem sub_day_in : ∀ x ∈ T_day_in.bl, x ∈ bls := by decide +kernel
theorem sub_wrong_rows : ∀ x ∈ T_wrong_rows.bl, x ∈ bls := by decide +kernel
theorem sub_Rule___init__ : ∀ x ∈ T_Rule___init__.bl, x ∈ bls := by decide +kernel
theorem sub__law_draw : ∀ x ∈ T__law_draw.bl, x ∈ bls := by decide +kernel
theorem sub__law_of : ∀ x ∈ T__law_of.bl, x ∈ bls := by decide +kernel
theorem sub__law_take : ∀ x ∈ T__law_take.bl, x ∈ bls := by decide +kernel
theorem sub__law_rows : ∀ x ∈ T__law_rows.bl, x ∈ bls := by decide +kernel
theorem sub_Rule_read : ∀ x ∈ T_Rule_read.bl, x ∈ bls := by decide +kernel
theorem sub__law_made : ∀ x ∈ T__law_made.bl, x ∈ bls := by decide +kernel
theorem sub__law_by_rows : ∀ x ∈ T__law_by_rows.bl, x ∈ bls := by decide +kernel
theorem sub_Rule___eq__ : ∀ x ∈ T_Rule___eq__.bl, x ∈ bls := by decide +kernel
theorem sub__law_right : ∀ x ∈ T__law_right.bl, x ∈ bls := by decide +kernel
theorem sub__law_spring : ∀ x ∈ T__law_spring.bl, x ∈ bls := by decide +kernel
theorem sub_law : ∀ x ∈ T_law.bl, x ∈ bls := by decide +kernel
section
variable [TheW] {P : Program} {w : World} {K : PySem.W.Frag} {mg : Str → Option Value} {base h : Heap}
theorem free_ (X : K.In h) (G : h.Ns mainGlobals mg) (c : SaysB fa fn K) : ∀ x ∈ bls, mg x = none := fun x hx => by
  obtain ⟨i, hi, e⟩ := List.getElem_of_mem hx
  refine He.free_ok X G (SaysB.fact c i (f := fun K => (He.Fa.free x).ok K) ?_)
  unfold fa
  rw [List.getElem?_append_left (by rw [List.length_map]; exact hi), List.getElem?_map, List.getElem?_eq_getElem hi, e]; rfl
theorem sc__law_head : FnScope T__law_head.N ["_law_rows_now"] (defScope (top 27)) := ⟨rfl, rfl, rfl, by decide +kernel, rfl, by decide +kernel, by decide +kernel⟩
theorem e__law_head (hw : TheW.w = w) (X : K.In h) (G : h.Ns mainGlobals mg) (c : SaysB fa fn K) : FnE P w K mg base 1 "_law_head" r__law_head 1 := by
  obtain ⟨fd, F⟩ := SaysB.def_ c 0 (d := q__law_head) rfl
  have E : Env1 P w K mg base T__law_head ρ 0   := env1 hw (fun x hx => free_ X G c x (sub__law_head x hx)) fns_nil kws_nil cns_nil atts_nil mes_nil mks_nil cms_nil ios_nil fvs_nil
  have GG := def_ok (r := r__law_head) (n := 1) (ps := ["_law_rows_now"]) F sc__law_head E rfl t__law_head (fun _ _ _ => rfl)
  have gl : mg "_law_head" = some (.ref (He.ga K "_law_head")) := He.glo_ok X G (SaysB.fact c 15 (f := fun K => (He.Fa.glo "_law_head").ok K) rfl)
  exact ⟨_, fd, _, 1, Nat.le_refl _, gl, F.kp, GG, F.bindsN (fun _ _ _ _ _ _ us hl => match us, hl with | [_], _ => rfl)⟩

theorem sc_Rule___str__ : FnScope T_Rule___str__.N ["self"] (defScope (L2.inClass (top 19) 10)) := ⟨rfl, rfl, rfl, by decide +kernel, rfl, by decide +kernel, by decide +kernel⟩
theorem e_Rule___str__ (hw : TheW.w = w) (X : K.In h) (G : h.Ns mainGlobals mg) (c : SaysB fa fn K) : MetE P w K mg base 1 "Rule" "__str__" 1 r_Rule___str__ := by
  obtain ⟨fd, F⟩ := SaysB.def_ c 1 (d := q_Rule___str__) rfl
  have E : Env1 P w K mg base T_Rule___str__ ρ 0   := env1 hw (fun x hx => free_ X G c x (sub_Rule___str__ x hx)) fns_nil kws_nil cns_nil (atts_cons (flds_cons (fldE (SaysB.fact c 16 (f := clsB "Rule") rfl) (SaysB.fact c 17 (f := fun K => (He.Fa.noat "Rule" "told").ok K) rfl)) flds_nil) prps_nil atts_nil) mes_nil mks_nil cms_nil ios_nil fvs_nil
  have GG := def_ok (r := r_Rule___str__) (n := 1) (ps := ["self"]) F sc_Rule___str__ E rfl t_Rule___str__ (fun _ _ _ => rfl)
  have GR := GR.of GG (F.bindsN (fun _ _ _ _ _ _ us hl => match us, hl with | [_], _ => rfl)) rfl
  exact ⟨_, _, 1, Nat.le_refl _, clsB_ok (SaysB.fact c 16 (f := clsB "Rule") rfl), He.meth_ok (SaysB.fact c 19 (f := fun K => (He.Fa.meth "Rule" "__str__").ok K) rfl), GR⟩

theorem sc_Rule___bool__ : FnScope T_Rule___bool__.N ["self"] (defScope (L2.inClass (top 19) 8)) := ⟨rfl, rfl, rfl, by decide +kernel, rfl, by decide +kernel, by decide +kernel⟩
theorem e_Rule___bool__ (hw : TheW.w = w) (X : K.In h) (G : h.Ns mainGlobals mg) (c : SaysB fa fn K) : MetE P w K mg base 1 "Rule" "__bool__" 1 r_Rule___bool__ := by
  obtain ⟨fd, F⟩ := SaysB.def_ c 2 (d := q_Rule___bool__) rfl
  have E : Env1 P w K mg base T_Rule___bool__ ρ 0   := env1 hw (fun x hx => free_ X G c x (sub_Rule___bool__ x hx)) fns_nil kws_nil cns_nil atts_nil mes_nil mks_nil cms_nil ios_nil fvs_nil
  have GG := def_ok (r := r_Rule___bool__) (n := 1) (ps := ["self"]) F sc_Rule___bool__ E rfl t_Rule___bool__ (fun _ _ _ => rfl)
  have GR := GR.of GG (F.bindsN (fun _ _ _ _ _ _ us hl => match us, hl with | [_], _ => rfl)) rfl
  exact ⟨_, _, 1, Nat.le_refl _, clsB_ok (SaysB.fact c 16 (f := clsB "Rule") rfl), He.meth_ok (SaysB.fact c 20 (f := fun K => (He.Fa.meth "Rule" "__bool__").ok K) rfl), GR⟩

theorem sc_Rule___len__ : FnScope T_Rule___len__.N ["self"] (defScope (L2.inClass (top 19) 7)) := ⟨rfl, rfl, rfl, by decide +kernel, rfl, by decide +kernel, by decide +kernel⟩
theorem e_Rule___len__ (hw : TheW.w = w) (X : K.In h) (G : h.Ns mainGlobals mg) (c : SaysB fa fn K) : MetE P w K mg base 1 "Rule" "__len__" 1 r_Rule___len__ := by
  obtain ⟨fd, F⟩ := SaysB.def_ c 3 (d := q_Rule___len__) rfl
  have E : Env1 P w K mg base T_Rule___len__ ρ 0   := env1 hw (fun x hx => free_ X G c x (sub_Rule___len__ x hx)) fns_nil kws_nil cns_nil (atts_cons (flds_cons (fldE (SaysB.fact c 16 (f := clsB "Rule") rfl) (SaysB.fact c 21 (f := fun K => (He.Fa.noat "Rule" "plan").ok K) rfl)) flds_nil) prps_nil atts_nil) mes_nil mks_nil cms_nil ios_nil fvs_nil
  have GG := def_ok (r := r_Rule___len__) (n := 1) (ps := ["self"]) F sc_Rule___len__ E rfl t_Rule___len__ (fun _ _ _ => rfl)
  have GR := GR.of GG (F.bindsN (fun _ _ _ _ _ _ us hl => match us, hl with | [_], _ => rfl)) rfl
  exact ⟨_, _, 1, Nat.le_refl _, clsB_ok (SaysB.fact c 16 (f := clsB "Rule") rfl), He.meth_ok (SaysB.fact c 22 (f := fun K => (He.Fa.meth "Rule" "__len__").ok K) rfl), GR⟩

theorem sc_Rule___repr__ : FnScope T_Rule___repr__.N ["self"] (defScope (L2.inClass (top 19) 11)) := ⟨rfl, rfl, rfl, by decide +kernel, rfl, by decide +kernel, by decide +kernel⟩
theorem e_Rule___repr__ (hw : TheW.w = w) (X : K.In h) (G : h.Ns mainGlobals mg) (c : SaysB fa fn K) : MetE P w K mg base 1 "Rule" "__repr__" 1 r_Rule___repr__ := by
  obtain ⟨fd, F⟩ := SaysB.def_ c 4 (d := q_Rule___repr__) rfl
  have E : Env1 P w K mg base T_Rule___repr__ ρ 0   := env1 hw (fun x hx => free_ X G c x (sub_Rule___repr__ x hx)) fns_nil kws_nil cns_nil (atts_cons (flds_cons (fldE (SaysB.fact c 16 (f := clsB "Rule") rfl) (SaysB.fact c 21 (f := fun K => (He.Fa.noat "Rule" "plan").ok K) rfl)) flds_nil) prps_nil atts_nil) mes_nil mks_nil cms_nil ios_nil fvs_nil
  have GG := def_ok (r := r_Rule___repr__) (n := 1) (ps := ["self"]) F sc_Rule___repr__ E rfl t_Rule___repr__ (fun _ _ _ => rfl)
  have GR := GR.of GG (F.bindsN (fun _ _ _ _ _ _ us hl => match us, hl with | [_], _ => rfl)) rfl
  exact ⟨_, _, 1, Nat.le_refl _, clsB_ok (SaysB.fact c 16 (f := clsB "Rule") rfl), He.meth_ok (SaysB.fact c 23 (f := fun K => (He.Fa.meth "Rule" "__repr__").ok K) rfl), GR⟩

theorem sc_Rule_rows : FnScope T_Rule_rows.N ["self"] (defScope (L2.inClass (top 19) 2)) := ⟨rfl, rfl, rfl, by decide +kernel, rfl, by decide +kernel, by decide +kernel⟩
theorem e_Rule_rows (hw : TheW.w = w) (X : K.In h) (G : h.Ns mainGlobals mg) (c : SaysB fa fn K) : PrpE P w K mg base 2 "Rule" "rows" r_Rule_rows := by
  obtain ⟨fd, F⟩ := SaysB.def_ c 5 (d := q_Rule_rows) rfl
  have E : Env1 P w K mg base T_Rule_rows ρ 0   := env1 hw (fun x hx => free_ X G c x (sub_Rule_rows x hx)) fns_nil kws_nil cns_nil (atts_cons (flds_cons (fldE (SaysB.fact c 16 (f := clsB "Rule") rfl) (SaysB.fact c 17 (f := fun K => (He.Fa.noat "Rule" "told").ok K) rfl)) flds_nil) prps_nil atts_nil) mes_nil mks_nil cms_nil ios_nil fvs_nil
  have GG := def_ok (r := r_Rule_rows) (n := 1) (ps := ["self"]) F sc_Rule_rows E rfl t_Rule_rows (fun _ _ _ => rfl)
  have GR := GR.of GG (F.bindsN (fun _ _ _ _ _ _ us hl => match us, hl with | [_], _ => rfl)) rfl
  exact ⟨_, _, _, 1, Nat.le_refl _, clsB_ok (SaysB.fact c 16 (f := clsB "Rule") rfl), prB_ok (SaysB.fact c 24 (f := prB "Rule" "rows") rfl), GR⟩

theorem sc_Rule_text : FnScope T_Rule_text.N ["self"] (defScope (L2.inClass (top 19) 3)) := ⟨rfl, rfl, rfl, by decide +kernel, rfl, by decide +kernel, by decide +kernel⟩
theorem e_Rule_text (hw : TheW.w = w) (X : K.In h) (G : h.Ns mainGlobals mg) (c : SaysB fa fn K) : PrpE P w K mg base 2 "Rule" "text" r_Rule_text := by
  obtain ⟨fd, F⟩ := SaysB.def_ c 6 (d := q_Rule_text) rfl
  have E : Env1 P w K mg base T_Rule_text ρ 0   := env1 hw (fun x hx => free_ X G c x (sub_Rule_text x hx)) fns_nil kws_nil cns_nil (atts_cons (flds_cons (fldE (SaysB.fact c 16 (f := clsB "Rule") rfl) (SaysB.fact c 17 (f := fun K => (He.Fa.noat "Rule" "told").ok K) rfl)) flds_nil) prps_nil atts_nil) mes_nil mks_nil cms_nil ios_nil fvs_nil
  have GG := def_ok (r := r_Rule_text) (n := 1) (ps := ["self"]) F sc_Rule_text E rfl t_Rule_text (fun _ _ _ => rfl)
  have GR := GR.of GG (F.bindsN (fun _ _ _ _ _ _ us hl => match us, hl with | [_], _ => rfl)) rfl
  exact ⟨_, _, _, 1, Nat.le_refl _, clsB_ok (SaysB.fact c 16 (f := clsB "Rule") rfl), prB_ok (SaysB.fact c 25 (f := prB "Rule" "text") rfl), GR⟩

theorem sc_Rule_plates : FnScope T_Rule_plates.N ["self"] (defScope (L2.inClass (top 19) 4)) := ⟨rfl, rfl, rfl, by decide +kernel, rfl, by decide +kernel, by decide +kernel⟩
theorem e_Rule_plates (hw : TheW.w = w) (X : K.In h) (G : h.Ns mainGlobals mg) (c : SaysB fa fn K) : PrpE P w K mg base 2 "Rule" "plates" r_Rule_plates := by
  obtain ⟨fd, F⟩ := SaysB.def_ c 7 (d := q_Rule_plates) rfl
  have E : Env1 P w K mg base T_Rule_plates ρ 0   := env1 hw (fun x hx => free_ X G c x (sub_Rule_plates x hx)) fns_nil kws_nil cns_nil (atts_cons (flds_cons (fldE (SaysB.fact c 16 (f := clsB "Rule") rfl) (SaysB.fact c 26 (f := fun K => (He.Fa.noat "Rule" "many").ok K) rfl)) flds_nil) prps_nil atts_nil) mes_nil mks_nil cms_nil ios_nil fvs_nil
  have GG := def_ok (r := r_Rule_plates) (n := 1) (ps := ["self"]) F sc_Rule_plates E rfl t_Rule_plates (fun _ _ _ => rfl)
  have GR := GR.of GG (F.bindsN (fun _ _ _ _ _ _ us hl => match us, hl with | [_], _ => rfl)) rfl
  exact ⟨_, _, _, 1, Nat.le_refl _, clsB_ok (SaysB.fact c 16 (f := clsB "Rule") rfl), prB_ok (SaysB.fact c 27 (f := prB "Rule" "plates") rfl), GR⟩

theorem sc_Rule_away : FnScope T_Rule_away.N ["self"] (defScope (L2.inClass (top 19) 5)) := ⟨rfl, rfl, rfl, by decide +kernel, rfl, by decide +kernel, by decide +kernel⟩
theorem e_Rule_away (hw : TheW.w = w) (X : K.In h) (G : h.Ns mainGlobals mg) (c : SaysB fa fn K) : PrpE P w K mg base 2 "Rule" "away" r_Rule_away := by
  obtain ⟨fd, F⟩ := SaysB.def_ c 8 (d := q_Rule_away) rfl
  have E : Env1 P w K mg base T_Rule_away ρ 0   := env1 hw (fun x hx => free_ X G c x (sub_Rule_away x hx)) fns_nil kws_nil cns_nil (atts_cons (flds_cons (fldE (SaysB.fact c 16 (f := clsB "Rule") rfl) (SaysB.fact c 28 (f := fun K => (He.Fa.noat "Rule" "late").ok K) rfl)) flds_nil) prps_nil atts_nil) mes_nil mks_nil cms_nil ios_nil fvs_nil
  have GG := def_ok (r := r_Rule_away) (n := 1) (ps := ["self"]) F sc_Rule_away E rfl t_Rule_away (fun _ _ _ => rfl)
  have GR := GR.of GG (F.bindsN (fun _ _ _ _ _ _ us hl => match us, hl with | [_], _ => rfl)) rfl
  exact ⟨_, _, _, 1, Nat.le_refl _, clsB_ok (SaysB.fact c 16 (f := clsB "Rule") rfl), prB_ok (SaysB.fact c 29 (f := prB "Rule" "away") rfl), GR⟩

theorem sc__law_shows : FnScope T__law_shows.N ["_law_mine", "_law_some"] (defScope (top 29)) := ⟨rfl, rfl, rfl, by decide +kernel, rfl, by decide +kernel, by decide +kernel⟩
theorem e__law_shows (hw : TheW.w = w) (X : K.In h) (G : h.Ns mainGlobals mg) (c : SaysB fa fn K) (e__law_head : FnE P w K mg base 1 "_law_head" r__law_head 1) (m_Rule___str__ : MetE P w K mg base 1 "Rule" "__str__" 1 r_Rule___str__) (m_Rule___bool__ : MetE P w K mg base 1 "Rule" "__bool__" 1 r_Rule___bool__) (m_Rule___len__ : MetE P w K mg base 1 "Rule" "__len__" 1 r_Rule___len__) (m_Rule___repr__ : MetE P w K mg base 1 "Rule" "__repr__" 1 r_Rule___repr__) (p_Rule_rows : PrpE P w K mg base 2 "Rule" "rows" r_Rule_rows) (p_Rule_text : PrpE P w K mg base 2 "Rule" "text" r_Rule_text) (p_Rule_plates : PrpE P w K mg base 2 "Rule" "plates" r_Rule_plates) (p_Rule_away : PrpE P w K mg base 2 "Rule" "away" r_Rule_away) : FnE P w K mg base 4 "_law_shows" r__law_shows 2 := by
  obtain ⟨fd, F⟩ := SaysB.def_ c 9 (d := q__law_shows) rfl
  have E : Env1 P w K mg base T__law_shows ρ 3   := env1 hw (fun x hx => free_ X G c x (sub__law_shows x hx)) (fns_cons (e__law_head.up (by decide)) fns_nil) kws_nil cns_nil (atts_cons flds_nil (prps_cons (p_Rule_away.up (by decide)) prps_nil) (atts_cons flds_nil (prps_cons (p_Rule_plates.up (by decide)) prps_nil) (atts_cons flds_nil (prps_cons (p_Rule_rows.up (by decide)) prps_nil) (atts_cons flds_nil (prps_cons (p_Rule_text.up (by decide)) prps_nil) atts_nil)))) mes_nil mks_nil cms_nil ios_nil fvs_nil (sp := (sps_cons (spt_cons (spe_of m_Rule___bool__ (by decide)) spt_nil) (sps_cons (spt_cons (spe_of m_Rule___len__ (by decide)) spt_nil) (sps_cons (spt_cons (spe_of m_Rule___repr__ (by decide)) spt_nil) (sps_cons (spt_cons (spe_of m_Rule___str__ (by decide)) spt_nil) sps_nil)))))
  have GG := def_ok (r := r__law_shows) (n := 2) (ps := ["_law_mine", "_law_some"]) F sc__law_shows E rfl t__law_shows (fun _ _ _ => rfl)
  have gl : mg "_law_shows" = some (.ref (He.ga K "_law_shows")) := He.glo_ok X G (SaysB.fact c 30 (f := fun K => (He.Fa.glo "_law_shows").ok K) rfl)
  exact ⟨_, fd, _, 4, Nat.le_refl _, gl, F.kp, GG, F.bindsN (fun _ _ _ _ _ _ us hl => match us, hl with | [_, _], _ => rfl)⟩

theorem sc_number_in : FnScope T_number_in.N ["word"] (defScope (top 13)) := ⟨rfl, rfl, rfl, by decide +kernel, rfl, by decide +kernel, by decide +kernel⟩
theorem e_number_in (hw : TheW.w = w) (X : K.In h) (G : h.Ns mainGlobals mg) (c : SaysB fa fn K) : FnE P w K mg base 1 "number_in" r_number_in 1 := by
  obtain ⟨fd, F⟩ := SaysB.def_ c 10 (d := q_number_in) rfl
  have E : Env1 P w K mg base T_number_in ρ 0   := env1 hw (fun x hx => free_ X G c x (sub_number_in x hx)) fns_nil kws_nil (cns_str (He.str_ok X G (SaysB.fact c 31 (f := fun K => (He.Fa.str "FIGURES" "0123456789").ok K) rfl)) cns_nil) atts_nil mes_nil mks_nil cms_nil ios_nil fvs_nil
  have GG := def_ok (r := r_number_in) (n := 1) (ps := ["word"]) F sc_number_in E rfl t_number_in (fun _ _ _ => rfl)
  have gl : mg "number_in" = some (.ref (He.ga K "number_in")) := He.glo_ok X G (SaysB.fact c 32 (f := fun K => (He.Fa.glo "number_in").ok K) rfl)
  exact ⟨_, fd, _, 1, Nat.le_refl _, gl, F.kp, GG, F.bindsN (fun _ _ _ _ _ _ us hl => match us, hl with | [_], _ => rfl)⟩

theorem sc_bounded : FnScope T_bounded.N ["word", "least", "most"] (defScope (top 14)) := ⟨rfl, rfl, rfl, by decide +kernel, rfl, by decide +kernel, by decide +kernel⟩
theorem e_bounded (hw : TheW.w = w) (X : K.In h) (G : h.Ns mainGlobals mg) (c : SaysB fa fn K) (e_number_in : FnE P w K mg base 1 "number_in" r_number_in 1) : FnE P w K mg base 2 "bounded" r_bounded 3 := by
  obtain ⟨fd, F⟩ := SaysB.def_ c 11 (d := q_bounded) rfl
  have E : Env1 P w K mg base T_bounded ρ 1   := env1 hw (fun x hx => free_ X G c x (sub_bounded x hx)) (fns_cons (e_number_in.up (by decide)) fns_nil) kws_nil cns_nil atts_nil mes_nil mks_nil cms_nil ios_nil fvs_nil
  have GG := def_ok (r := r_bounded) (n := 3) (ps := ["word", "least", "most"]) F sc_bounded E rfl t_bounded (fun _ _ _ => rfl)
  have gl : mg "bounded" = some (.ref (He.ga K "bounded")) := He.glo_ok X G (SaysB.fact c 33 (f := fun K => (He.Fa.glo "bounded").ok K) rfl)
  exact ⟨_, fd, _, 2, Nat.le_refl _, gl, F.kp, GG, F.bindsN (fun _ _ _ _ _ _ us hl => match us, hl with | [_, _, _], _ => rfl)⟩

theorem sc_head_in : FnScope T_head_in.N ["row"] (defScope (top 15)) := ⟨rfl, rfl, rfl, by decide +kernel, rfl, by decide +kernel, by decide +kernel⟩
theorem e_head_in (hw : TheW.w = w) (X : K.In h) (G : h.Ns mainGlobals mg) (c : SaysB fa fn K) (e_bounded : FnE P w K mg base 2 "bounded" r_bounded 3) : FnE P w K mg base 3 "head_in" r_head_in 1 := by
  obtain ⟨fd, F⟩ := SaysB.def_ c 12 (d := q_head_in) rfl
  have E : Env1 P w K mg base T_head_in ρ 2   := env1 hw (fun x hx => free_ X G c x (sub_head_in x hx)) (fns_cons (e_bounded.up (by decide)) fns_nil) kws_nil (cns_int (He.int_ok X G (SaysB.fact c 35 (f := fun K => (He.Fa.int "MOST_AWAY" 2).ok K) rfl)) (cns_int (He.int_ok X G (SaysB.fact c 34 (f := fun K => (He.Fa.int "MOST_PLATES" 10).ok K) rfl)) cns_nil)) atts_nil mes_nil mks_nil cms_nil ios_nil fvs_nil
  have GG := def_ok (r := r_head_in) (n := 1) (ps := ["row"]) F sc_head_in E rfl t_head_in (fun _ _ _ => rfl)
  have gl : mg "head_in" = some (.ref (He.ga K "head_in")) := He.glo_ok X G (SaysB.fact c 36 (f := fun K => (He.Fa.glo "head_in").ok K) rfl)
  exact ⟨_, fd, _, 3, Nat.le_refl _, gl, F.kp, GG, F.bindsN (fun _ _ _ _ _ _ us hl => match us, hl with | [_], _ => rfl)⟩

theorem sc_where_in : FnScope T_where_in.N ["words"] (defScope (top 16)) := ⟨rfl, rfl, rfl, by decide +kernel, rfl, by decide +kernel, by decide +kernel⟩
theorem e_where_in (hw : TheW.w = w) (X : K.In h) (G : h.Ns mainGlobals mg) (c : SaysB fa fn K) (e_bounded : FnE P w K mg base 2 "bounded" r_bounded 3) : FnE P w K mg base 3 "where_in" r_where_in 1 := by
  obtain ⟨fd, F⟩ := SaysB.def_ c 13 (d := q_where_in) rfl
  have E : Env1 P w K mg base T_where_in ρ 2   := env1 hw (fun x hx => free_ X G c x (sub_where_in x hx)) (fns_cons (e_bounded.up (by decide)) fns_nil) kws_nil (cns_int (He.int_ok X G (SaysB.fact c 37 (f := fun K => (He.Fa.int "MOST_UNDER" 9).ok K) rfl)) cns_nil) atts_nil mes_nil mks_nil cms_nil ios_nil fvs_nil
  have GG := def_ok (r := r_where_in) (n := 1) (ps := ["words"]) F sc_where_in E rfl t_where_in (fun _ _ _ => rfl)
  have gl : mg "where_in" = some (.ref (He.ga K "where_in")) := He.glo_ok X G (SaysB.fact c 38 (f := fun K => (He.Fa.glo "where_in").ok K) rfl)
  exact ⟨_, fd, _, 3, Nat.le_refl _, gl, F.kp, GG, F.bindsN (fun _ _ _ _ _ _ us hl => match us, hl with | [_], _ => rfl)⟩

theorem sc_day_in : FnScope T_day_in.N ["row"] (defScope (top 17)) := ⟨rfl, rfl, rfl, by decide +kernel, rfl, by decide +kernel, by decide +kernel⟩
theorem e_day_in (hw : TheW.w = w) (X : K.In h) (G : h.Ns mainGlobals mg) (c : SaysB fa fn K) (e_where_in : FnE P w K mg base 3 "where_in" r_where_in 1) (e_bounded : FnE P w K mg base 2 "bounded" r_bounded 3) : FnE P w K mg base 4 "day_in" r_day_in 1 := by
  obtain ⟨fd, F⟩ := SaysB.def_ c 14 (d := q_day_in) rfl
  have E : Env1 P w K mg base T_day_in ρ 3   := env1 hw (fun x hx => free_ X G c x (sub_day_in x hx)) (fns_cons (e_bounded.up (by decide)) (fns_cons (e_where_in.up (by decide)) fns_nil)) kws_nil (cns_int (He.int_ok X G (SaysB.fact c 40 (f := fun K => (He.Fa.int "MOST_TAKEN" 6).ok K) rfl)) (cns_int (He.int_ok X G (SaysB.fact c 37 (f := fun K => (He.Fa.int "MOST_UNDER" 9).ok K) rfl)) (cns_tup (zs := ["kept", "turned"]) X G (SaysB.fact c 39 (f := tupB "ORDERS" ["kept", "turned"]) rfl) cns_nil))) atts_nil mes_nil mks_nil cms_nil ios_nil fvs_nil
  have GG := def_ok (r := r_day_in) (n := 1) (ps := ["row"]) F sc_day_in E rfl t_day_in (fun _ _ _ => rfl)
  have gl : mg "day_in" = some (.ref (He.ga K "day_in")) := He.glo_ok X G (SaysB.fact c 41 (f := fun K => (He.Fa.glo "day_in").ok K) rfl)
  exact ⟨_, fd, _, 4, Nat.le_refl _, gl, F.kp, GG, F.bindsN (fun _ _ _ _ _ _ us hl => match us, hl with | [_], _ => rfl)⟩

theorem sc_wrong_rows : FnScope T_wrong_rows.N ["rows"] (defScope (top 18)) := ⟨rfl, rfl, rfl, by decide +kernel, rfl, by decide +kernel, by decide +kernel⟩
theorem e_wrong_rows (hw : TheW.w = w) (X : K.In h) (G : h.Ns mainGlobals mg) (c : SaysB fa fn K) (e_head_in : FnE P w K mg base 3 "head_in" r_head_in 1) (e_day_in : FnE P w K mg base 4 "day_in" r_day_in 1) : FnE P w K mg base 5 "wrong_rows" r_wrong_rows 1 := by
  obtain ⟨fd, F⟩ := SaysB.def_ c 15 (d := q_wrong_rows) rfl
  have E : Env1 P w K mg base T_wrong_rows ρ 4   := env1 hw (fun x hx => free_ X G c x (sub_wrong_rows x hx)) (fns_cons (e_head_in.up (by decide)) (fns_cons (e_day_in.up (by decide)) fns_nil)) kws_nil (cns_int (He.int_ok X G (SaysB.fact c 42 (f := fun K => (He.Fa.int "MOST_DAYS" 6).ok K) rfl)) cns_nil) atts_nil mes_nil mks_nil cms_nil ios_nil fvs_nil
  have GG := def_ok (r := r_wrong_rows) (n := 1) (ps := ["rows"]) F sc_wrong_rows E rfl t_wrong_rows (fun _ _ _ => rfl)
  have gl : mg "wrong_rows" = some (.ref (He.ga K "wrong_rows")) := He.glo_ok X G (SaysB.fact c 43 (f := fun K => (He.Fa.glo "wrong_rows").ok K) rfl)
  exact ⟨_, fd, _, 5, Nat.le_refl _, gl, F.kp, GG, F.bindsN (fun _ _ _ _ _ _ us hl => match us, hl with | [_], _ => rfl)⟩

theorem sc_Rule___init__ : FnScope T_Rule___init__.N ((["self"] : List Str) ++ (["rows"] : List Str)) (defScope (L2.inClass (top 19) 0)) := ⟨rfl, rfl, rfl, by decide +kernel, rfl, by decide +kernel, by decide +kernel⟩
theorem e_Rule___init__ (hw : TheW.w = w) (X : K.In h) (G : h.Ns mainGlobals mg) (c : SaysB fa fn K) (e_wrong_rows : FnE P w K mg base 5 "wrong_rows" r_wrong_rows 1) (e_head_in : FnE P w K mg base 3 "head_in" r_head_in 1) (e_day_in : FnE P w K mg base 4 "day_in" r_day_in 1) : MkE P w K mg base 7 "Rule" (arB true 1 r_Rule___init__) := by
  obtain ⟨fd, F⟩ := SaysB.def_ c 16 (d := q_Rule___init__) rfl
  have E : Env1 P w K mg base T_Rule___init__ ρ 5   := env1 hw (fun x hx => free_ X G c x (sub_Rule___init__ x hx)) (fns_cons (e_head_in.up (by decide)) (fns_cons (e_day_in.up (by decide)) (fns_cons (e_wrong_rows.up (by decide)) fns_nil))) kws_nil cns_nil (atts_cons (flds_cons (fldE (SaysB.fact c 16 (f := clsB "Rule") rfl) (SaysB.fact c 28 (f := fun K => (He.Fa.noat "Rule" "late").ok K) rfl)) flds_nil) prps_nil (atts_cons (flds_cons (fldE (SaysB.fact c 16 (f := clsB "Rule") rfl) (SaysB.fact c 26 (f := fun K => (He.Fa.noat "Rule" "many").ok K) rfl)) flds_nil) prps_nil (atts_cons (flds_cons (fldE (SaysB.fact c 16 (f := clsB "Rule") rfl) (SaysB.fact c 21 (f := fun K => (He.Fa.noat "Rule" "plan").ok K) rfl)) flds_nil) prps_nil (atts_cons (flds_cons (fldE (SaysB.fact c 16 (f := clsB "Rule") rfl) (SaysB.fact c 17 (f := fun K => (He.Fa.noat "Rule" "told").ok K) rfl)) flds_nil) prps_nil atts_nil)))) mes_nil mks_nil cms_nil ios_nil fvs_nil
  have GR := def_okV (r := r_Rule___init__) (n := 1) (ps := ["self"]) (pv := "rows") F sc_Rule___init__ E rfl t_Rule___init__ (by
    obtain ⟨oc, od, dV, kV, doc, pm, an, cdv, ct, osl, rfl, lk, hcd, dd, _⟩ := F.ex
    cases dd_none dd
    exact StX.bind_star1 (B := fun us => bindArgs _ ⟨us, []⟩) (fun _ => rfl) (fun _ _ _ => rfl)) (fun _ _ _ => rfl)
  exact ⟨_, _, 6, Nat.le_refl _, clsB_ok (SaysB.fact c 16 (f := clsB "Rule") rfl), He.glo_ok X G (SaysB.fact c 18 (f := fun K => (He.Fa.glo "Rule").ok K) rfl), He.mkr_ok (SaysB.fact c 44 (f := fun K => (He.Fa.mkr "Rule").ok K) rfl), GR⟩

theorem sc__law_draw : FnScope T__law_draw.N ["_law_spring_here", "_law_size"] (defScope (top 22)) := ⟨rfl, rfl, rfl, by decide +kernel, rfl, by decide +kernel, by decide +kernel⟩
theorem e__law_draw (hw : TheW.w = w) (X : K.In h) (G : h.Ns mainGlobals mg) (c : SaysB fa fn K) : FnE P w K mg base 1 "_law_draw" r__law_draw 2 := by
  obtain ⟨fd, F⟩ := SaysB.def_ c 17 (d := q__law_draw) rfl
  have E : Env1 P w K mg base T__law_draw ρ 0   := env1 hw (fun x hx => free_ X G c x (sub__law_draw x hx)) fns_nil kws_nil cns_nil atts_nil mes_nil mks_nil cms_nil ios_nil fvs_nil
  have GG := def_ok (r := r__law_draw) (n := 2) (ps := ["_law_spring_here", "_law_size"]) F sc__law_draw E rfl t__law_draw (fun _ _ _ => rfl)
  have gl : mg "_law_draw" = some (.ref (He.ga K "_law_draw")) := He.glo_ok X G (SaysB.fact c 45 (f := fun K => (He.Fa.glo "_law_draw").ok K) rfl)
  exact ⟨_, fd, _, 1, Nat.le_refl _, gl, F.kp, GG, F.bindsN (fun _ _ _ _ _ _ us hl => match us, hl with | [_, _], _ => rfl)⟩

theorem sc__law_of : FnScope T__law_of.N ["_law_spring_here", "_law_menu"] (defScope (top 23)) := ⟨rfl, rfl, rfl, by decide +kernel, rfl, by decide +kernel, by decide +kernel⟩
theorem e__law_of (hw : TheW.w = w) (X : K.In h) (G : h.Ns mainGlobals mg) (c : SaysB fa fn K) (e__law_draw : FnE P w K mg base 1 "_law_draw" r__law_draw 2) : FnE P w K mg base 2 "_law_of" r__law_of 2 := by
  obtain ⟨fd, F⟩ := SaysB.def_ c 18 (d := q__law_of) rfl
  have E : Env1 P w K mg base T__law_of ρ 1   := env1 hw (fun x hx => free_ X G c x (sub__law_of x hx)) (fns_cons (e__law_draw.up (by decide)) fns_nil) kws_nil cns_nil atts_nil mes_nil mks_nil cms_nil ios_nil fvs_nil
  have GG := def_ok (r := r__law_of) (n := 2) (ps := ["_law_spring_here", "_law_menu"]) F sc__law_of E rfl t__law_of (fun _ _ _ => rfl)
  have gl : mg "_law_of" = some (.ref (He.ga K "_law_of")) := He.glo_ok X G (SaysB.fact c 46 (f := fun K => (He.Fa.glo "_law_of").ok K) rfl)
  exact ⟨_, fd, _, 2, Nat.le_refl _, gl, F.kp, GG, F.bindsN (fun _ _ _ _ _ _ us hl => match us, hl with | [_, _], _ => rfl)⟩

theorem sc__law_take : FnScope T__law_take.N ["_law_spring_here", "_law_many"] (defScope (top 24)) := ⟨rfl, rfl, rfl, by decide +kernel, rfl, by decide +kernel, by decide +kernel⟩
theorem e__law_take (hw : TheW.w = w) (X : K.In h) (G : h.Ns mainGlobals mg) (c : SaysB fa fn K) (e__law_of : FnE P w K mg base 2 "_law_of" r__law_of 2) (e__law_draw : FnE P w K mg base 1 "_law_draw" r__law_draw 2) : FnE P w K mg base 3 "_law_take" r__law_take 2 := by
  obtain ⟨fd, F⟩ := SaysB.def_ c 19 (d := q__law_take) rfl
  have E : Env1 P w K mg base T__law_take ρ 2   := env1 hw (fun x hx => free_ X G c x (sub__law_take x hx)) (fns_cons (e__law_draw.up (by decide)) (fns_cons (e__law_of.up (by decide)) fns_nil)) kws_nil cns_nil atts_nil mes_nil mks_nil cms_nil ios_nil fvs_nil
  have GG := def_ok (r := r__law_take) (n := 2) (ps := ["_law_spring_here", "_law_many"]) F sc__law_take E rfl t__law_take (fun _ _ _ => rfl)
  have gl : mg "_law_take" = some (.ref (He.ga K "_law_take")) := He.glo_ok X G (SaysB.fact c 47 (f := fun K => (He.Fa.glo "_law_take").ok K) rfl)
  exact ⟨_, fd, _, 3, Nat.le_refl _, gl, F.kp, GG, F.bindsN (fun _ _ _ _ _ _ us hl => match us, hl with | [_, _], _ => rfl)⟩

theorem sc__law_rows : FnScope T__law_rows.N ["_law_spring_here"] (defScope (top 25)) := ⟨rfl, rfl, rfl, by decide +kernel, rfl, by decide +kernel, by decide +kernel⟩
theorem e__law_rows (hw : TheW.w = w) (X : K.In h) (G : h.Ns mainGlobals mg) (c : SaysB fa fn K) (e__law_of : FnE P w K mg base 2 "_law_of" r__law_of 2) (e__law_take : FnE P w K mg base 3 "_law_take" r__law_take 2) (e__law_draw : FnE P w K mg base 1 "_law_draw" r__law_draw 2) : FnE P w K mg base 4 "_law_rows" r__law_rows 1 := by
  obtain ⟨fd, F⟩ := SaysB.def_ c 20 (d := q__law_rows) rfl
  have E : Env1 P w K mg base T__law_rows ρ 3   := env1 hw (fun x hx => free_ X G c x (sub__law_rows x hx)) (fns_cons (e__law_draw.up (by decide)) (fns_cons (e__law_of.up (by decide)) (fns_cons (e__law_take.up (by decide)) fns_nil))) kws_nil cns_nil atts_nil mes_nil mks_nil cms_nil ios_nil fvs_nil
  have GG := def_ok (r := r__law_rows) (n := 1) (ps := ["_law_spring_here"]) F sc__law_rows E rfl t__law_rows (fun _ _ _ => rfl)
  have gl : mg "_law_rows" = some (.ref (He.ga K "_law_rows")) := He.glo_ok X G (SaysB.fact c 48 (f := fun K => (He.Fa.glo "_law_rows").ok K) rfl)
  exact ⟨_, fd, _, 4, Nat.le_refl _, gl, F.kp, GG, F.bindsN (fun _ _ _ _ _ _ us hl => match us, hl with | [_], _ => rfl)⟩

theorem sc_Rule_read : FnScope T_Rule_read.N ["cls", "text"] (defScope (L2.inClass (top 19) 1)) := ⟨rfl, rfl, rfl, by decide +kernel, rfl, by decide +kernel, by decide +kernel⟩
theorem e_Rule_read (hw : TheW.w = w) (X : K.In h) (G : h.Ns mainGlobals mg) (c : SaysB fa fn K) (e_wrong_rows : FnE P w K mg base 5 "wrong_rows" r_wrong_rows 1) (k_Rule___init__ : MkE P w K mg base 7 "Rule" (arB true 1 r_Rule___init__)) : CmE P w K mg base 8 "Rule" "read" 2 r_Rule_read ∧ CmKE P w K mg base 8 "Rule" "read" ["text"] [0] 2 r_Rule_read := by
  obtain ⟨fd, F⟩ := SaysB.def_ c 21 (d := q_Rule_read) rfl
  have E : Env1 P w K mg base T_Rule_read ρ 7   := env1 hw (fun x hx => free_ X G c x (sub_Rule_read x hx)) (fns_cons (e_wrong_rows.up (by decide)) fns_nil) kws_nil cns_nil atts_nil mes_nil (mks_cons (k_Rule___init__.up (by decide)) mks_nil) cms_nil ios_nil fvs_nil
  have GG := def_ok (r := r_Rule_read) (n := 2) (ps := ["cls", "text"]) F sc_Rule_read E rfl t_Rule_read (fun _ _ _ => rfl)
  have GR := GR.of GG (F.bindsN (fun _ _ _ _ _ _ us hl => match us, hl with | [_, _], _ => rfl)) rfl
  have cm := cmB_ok (SaysB.fact c 49 (f := cmB "Rule" "read") rfl)
  exact ⟨⟨_, _, _, _, 8, Nat.le_refl _, clsB_ok (SaysB.fact c 16 (f := clsB "Rule") rfl), He.glo_ok X G (SaysB.fact c 18 (f := fun K => (He.Fa.glo "Rule").ok K) rfl), cm.1, cm.2, GR⟩, ⟨_, _, _, _, 8, Nat.le_refl _, clsB_ok (SaysB.fact c 16 (f := clsB "Rule") rfl), He.glo_ok X G (SaysB.fact c 18 (f := fun K => (He.Fa.glo "Rule").ok K) rfl), cm.1, cm.2, GRK.of GG fun s u us _ hl => by
    obtain ⟨oc, od, dV, kV, doc, pm, an, cdv, ct, osl, rfl, lk, hcd, dd, _⟩ := F.ex
    cases dd_none dd
    exact .of_eq (match us, hl with | [_], _ => rfl)⟩⟩

theorem sc__law_made : FnScope T__law_made.N ["_law_rows_now"] (defScope (top 26)) := ⟨rfl, rfl, rfl, by decide +kernel, rfl, by decide +kernel, by decide +kernel⟩
theorem e__law_made (hw : TheW.w = w) (X : K.In h) (G : h.Ns mainGlobals mg) (c : SaysB fa fn K) (c_Rule_read : CmE P w K mg base 8 "Rule" "read" 2 r_Rule_read) : FnE P w K mg base 9 "_law_made" r__law_made 1 := by
  obtain ⟨fd, F⟩ := SaysB.def_ c 22 (d := q__law_made) rfl
  have E : Env1 P w K mg base T__law_made ρ 8   := env1 hw (fun x hx => free_ X G c x (sub__law_made x hx)) fns_nil kws_nil cns_nil atts_nil mes_nil mks_nil (cms_cons (c_Rule_read.up (by decide)) cms_nil) ios_nil fvs_nil
  have GG := def_ok (r := r__law_made) (n := 1) (ps := ["_law_rows_now"]) F sc__law_made E rfl t__law_made (fun _ _ _ => rfl)
  have gl : mg "_law_made" = some (.ref (He.ga K "_law_made")) := He.glo_ok X G (SaysB.fact c 50 (f := fun K => (He.Fa.glo "_law_made").ok K) rfl)
  exact ⟨_, fd, _, 9, Nat.le_refl _, gl, F.kp, GG, F.bindsN (fun _ _ _ _ _ _ us hl => match us, hl with | [_], _ => rfl)⟩

theorem sc__law_by_rows : FnScope T__law_by_rows.N ["_law_some"] (defScope (top 28)) := ⟨rfl, rfl, rfl, by decide +kernel, rfl, by decide +kernel, by decide +kernel⟩
theorem e__law_by_rows (hw : TheW.w = w) (X : K.In h) (G : h.Ns mainGlobals mg) (c : SaysB fa fn K) (k_Rule___init__ : MkE P w K mg base 7 "Rule" (arB true 1 r_Rule___init__)) (e__law_made : FnE P w K mg base 9 "_law_made" r__law_made 1) : FnE P w K mg base 10 "_law_by_rows" r__law_by_rows 1 := by
  obtain ⟨fd, F⟩ := SaysB.def_ c 23 (d := q__law_by_rows) rfl
  have E : Env1 P w K mg base T__law_by_rows ρ 9   := env1 hw (fun x hx => free_ X G c x (sub__law_by_rows x hx)) (fns_cons (e__law_made.up (by decide)) fns_nil) kws_nil cns_nil atts_nil mes_nil (mks_cons (k_Rule___init__.up (by decide)) mks_nil) cms_nil ios_nil fvs_nil
  have GG := def_ok (r := r__law_by_rows) (n := 1) (ps := ["_law_some"]) F sc__law_by_rows E rfl t__law_by_rows (fun _ _ _ => rfl)
  have gl : mg "_law_by_rows" = some (.ref (He.ga K "_law_by_rows")) := He.glo_ok X G (SaysB.fact c 51 (f := fun K => (He.Fa.glo "_law_by_rows").ok K) rfl)
  exact ⟨_, fd, _, 10, Nat.le_refl _, gl, F.kp, GG, F.bindsN (fun _ _ _ _ _ _ us hl => match us, hl with | [_], _ => rfl)⟩

theorem sc_Rule___eq__ : FnScope T_Rule___eq__.N ["self", "other"] (defScope (L2.inClass (top 19) 9)) := ⟨rfl, rfl, rfl, by decide +kernel, rfl, by decide +kernel, by decide +kernel⟩
theorem e_Rule___eq__ (hw : TheW.w = w) (X : K.In h) (G : h.Ns mainGlobals mg) (c : SaysB fa fn K) (p_Rule_rows : PrpE P w K mg base 2 "Rule" "rows" r_Rule_rows) : MetE P w K mg base 3 "Rule" "__eq__" 2 r_Rule___eq__ := by
  obtain ⟨fd, F⟩ := SaysB.def_ c 24 (d := q_Rule___eq__) rfl
  have E : Env1 P w K mg base T_Rule___eq__ ρ 2   := env1 hw (fun x hx => free_ X G c x (sub_Rule___eq__ x hx)) fns_nil kws_nil cns_nil (atts_cons flds_nil (prps_cons (p_Rule_rows.up (by decide)) prps_nil) (atts_cons (flds_cons (fldE (SaysB.fact c 16 (f := clsB "Rule") rfl) (SaysB.fact c 17 (f := fun K => (He.Fa.noat "Rule" "told").ok K) rfl)) flds_nil) prps_nil atts_nil)) mes_nil mks_nil cms_nil (ios_cons (isB_ok (He.glo_ok X G (SaysB.fact c 18 (f := fun K => (He.Fa.glo "Rule").ok K) rfl)) (SaysB.fact c 52 (f := isB "Rule" ["Rule"]) rfl)) ios_nil) fvs_nil
  have GG := def_ok (r := r_Rule___eq__) (n := 2) (ps := ["self", "other"]) F sc_Rule___eq__ E rfl t_Rule___eq__ (fun _ _ _ => rfl)
  have GR := GR.of GG (F.bindsN (fun _ _ _ _ _ _ us hl => match us, hl with | [_, _], _ => rfl)) rfl
  exact ⟨_, _, 3, Nat.le_refl _, clsB_ok (SaysB.fact c 16 (f := clsB "Rule") rfl), He.meth_ok (SaysB.fact c 53 (f := fun K => (He.Fa.meth "Rule" "__eq__").ok K) rfl), GR⟩

theorem sc__law_right : FnScope T__law_right.N ["_law_spring_here"] (defScope (top 30)) := ⟨rfl, rfl, rfl, by decide +kernel, rfl, by decide +kernel, by decide +kernel⟩
theorem e__law_right (hw : TheW.w = w) (X : K.In h) (G : h.Ns mainGlobals mg) (c : SaysB fa fn K) (e__law_rows : FnE P w K mg base 4 "_law_rows" r__law_rows 1) (e__law_by_rows : FnE P w K mg base 10 "_law_by_rows" r__law_by_rows 1) (e__law_shows : FnE P w K mg base 4 "_law_shows" r__law_shows 2) (c_Rule_read : CmE P w K mg base 8 "Rule" "read" 2 r_Rule_read) (m_Rule___eq__ : MetE P w K mg base 3 "Rule" "__eq__" 2 r_Rule___eq__) (m_Rule___len__ : MetE P w K mg base 1 "Rule" "__len__" 1 r_Rule___len__) (p_Rule_text : PrpE P w K mg base 2 "Rule" "text" r_Rule_text) (p_Rule_rows : PrpE P w K mg base 2 "Rule" "rows" r_Rule_rows) (p_Rule_plates : PrpE P w K mg base 2 "Rule" "plates" r_Rule_plates) (f0_Rule_read : CmKE P w K mg base 8 "Rule" "read" ["text"] [0] 2 r_Rule_read) : FnE P w K mg base 11 "_law_right" r__law_right 1 := by
  obtain ⟨fd, F⟩ := SaysB.def_ c 25 (d := q__law_right) rfl
  have E : Env1 P w K mg base T__law_right ρ 10   := env1 hw (fun x hx => free_ X G c x (sub__law_right x hx)) (fns_cons (e__law_shows.up (by decide)) (fns_cons (e__law_rows.up (by decide)) (fns_cons (e__law_by_rows.up (by decide)) fns_nil))) kws_nil cns_nil (atts_cons flds_nil (prps_cons (p_Rule_plates.up (by decide)) prps_nil) (atts_cons flds_nil (prps_cons (p_Rule_rows.up (by decide)) prps_nil) (atts_cons flds_nil (prps_cons (p_Rule_text.up (by decide)) prps_nil) atts_nil))) mes_nil mks_nil cms_nil ios_nil fvs_nil (cmk := (cmks_cons (f0_Rule_read.up (by decide)) cmks_nil)) (sp := (sps_cons (spt_cons (spe_of m_Rule___eq__ (by decide)) spt_nil) (sps_cons (spt_cons (spe_of m_Rule___len__ (by decide)) spt_nil) sps_nil)))
  have GG := def_ok (r := r__law_right) (n := 1) (ps := ["_law_spring_here"]) F sc__law_right E rfl t__law_right (fun _ _ _ => rfl)
  have gl : mg "_law_right" = some (.ref (He.ga K "_law_right")) := He.glo_ok X G (SaysB.fact c 54 (f := fun K => (He.Fa.glo "_law_right").ok K) rfl)
  exact ⟨_, fd, _, 11, Nat.le_refl _, gl, F.kp, GG, F.bindsN (fun _ _ _ _ _ _ us hl => match us, hl with | [_], _ => rfl)⟩

theorem sc__law_spring : FnScope T__law_spring.N ["_law_cells", "_law_k"] (defScope (top 21)) := ⟨rfl, rfl, rfl, by decide +kernel, rfl, by decide +kernel, by decide +kernel⟩
theorem e__law_spring (hw : TheW.w = w) (X : K.In h) (G : h.Ns mainGlobals mg) (c : SaysB fa fn K) : FnE P w K mg base 1 "_law_spring" r__law_spring 2 := by
  obtain ⟨fd, F⟩ := SaysB.def_ c 26 (d := q__law_spring) rfl
  have E : Env1 P w K mg base T__law_spring ρ 0   := env1 hw (fun x hx => free_ X G c x (sub__law_spring x hx)) fns_nil kws_nil cns_nil atts_nil mes_nil mks_nil cms_nil ios_nil fvs_nil
  have GG := def_ok (r := r__law_spring) (n := 2) (ps := ["_law_cells", "_law_k"]) F sc__law_spring E rfl t__law_spring (fun _ _ _ => rfl)
  have gl : mg "_law_spring" = some (.ref (He.ga K "_law_spring")) := He.glo_ok X G (SaysB.fact c 55 (f := fun K => (He.Fa.glo "_law_spring").ok K) rfl)
  exact ⟨_, fd, _, 1, Nat.le_refl _, gl, F.kp, GG, F.bindsN (fun _ _ _ _ _ _ us hl => match us, hl with | [_, _], _ => rfl)⟩

theorem sc_law : FnScope T_law.N ["_law_script"] (defScope (top 31)) := ⟨rfl, rfl, rfl, by decide +kernel, rfl, by decide +kernel, by decide +kernel⟩
theorem e_law (hw : TheW.w = w) (X : K.In h) (G : h.Ns mainGlobals mg) (c : SaysB fa fn K) (e__law_shows : FnE P w K mg base 4 "_law_shows" r__law_shows 2) (k_Rule___init__ : MkE P w K mg base 7 "Rule" (arB true 1 r_Rule___init__)) (e__law_right : FnE P w K mg base 11 "_law_right" r__law_right 1) (e__law_made : FnE P w K mg base 9 "_law_made" r__law_made 1) (e__law_spring : FnE P w K mg base 1 "_law_spring" r__law_spring 2) (m_Rule___eq__ : MetE P w K mg base 3 "Rule" "__eq__" 2 r_Rule___eq__) : FnE P w K mg base 12 "law" r_law 1 := by
  obtain ⟨fd, F⟩ := SaysB.def_ c 27 (d := q_law) rfl
  have E : Env1 P w K mg base T_law ρ 11   := env1 hw (fun x hx => free_ X G c x (sub_law x hx)) (fns_cons (e__law_shows.up (by decide)) (fns_cons (e__law_made.up (by decide)) (fns_cons (e__law_right.up (by decide)) (fns_cons (e__law_spring.up (by decide)) fns_nil)))) kws_nil cns_nil atts_nil mes_nil (mks_cons (k_Rule___init__.up (by decide)) mks_nil) cms_nil ios_nil fvs_nil (sp := (sps_cons (spt_cons (spe_of m_Rule___eq__ (by decide)) spt_nil) sps_nil))
  have GG := def_ok (r := r_law) (n := 1) (ps := ["_law_script"]) F sc_law E rfl t_law (fun _ _ _ => rfl)
  have gl : mg "law" = some (.ref (He.ga K "law")) := He.glo_ok X G (SaysB.fact c 56 (f := fun K => (He.Fa.glo "law").ok K) rfl)
  exact ⟨_, fd, _, 12, Nat.le_refl _, gl, F.kp, GG, F.bindsN (fun _ _ _ _ _ _ us hl => match us, hl with | [_], _ => rfl)⟩

end
abbrev R : PySem.W.OpenRow := PySem.W.OpenLaw.row PySem.Challenge.rw_pileworn_k02_rules_made
def adr0 : List Addr := [2, 3, 77, 81, 82, 88, 89, 95, 96, 102, 103, 109, 110, 116, 117, 128, 129, 135, 136, 138, 145, 146, 147, 153, 154, 155, 161, 162, 163, 169, 170, 171, 184, 185, 191, 192, 198, 199, 205, 206]
def adr1 : List Addr := [212, 213, 215, 216, 226, 227, 233, 234, 240, 241, 247, 248, 254, 255, 261, 262, 268, 269, 275, 276, 282, 283, 287, 288, 292, 293]
def adr : List Addr := adr0 ++ adr1
abbrev hk : PySem.W.Hook := hookL adr fa fn
def ob (s : PySem.W.SharedT) : He.AlD := obsLG adr fa fn (HandSHeadRun.getT s)
theorem ob_eq (s : PySem.W.SharedT) : ob s = hk.obs s.abs := obsLG_eq (HandSHeadRun.getT_eq s)
def loose0 : List Str := ["_wall", "__name__", "WrongValue", "InvalidText", "InvalidRows", "MOST_PLATES", "MOST_AWAY", "MOST_DAYS", "MOST_TAKEN", "MOST_UNDER", "FIGURES", "ORDERS", "number_in", "bounded", "head_in", "where_in", "day_in", "wrong_rows", "Rule", "_law_spring", "_law_draw", "_law_of", "_law_take", "_law_rows", "_law_made", "_law_head", "_law_by_rows", "_law_shows", "_law_right"]
def loose : List Str := loose0
def lawAt : Nat := 31
def keepAt : List Nat := [31]
theorem run_l : ∀ (w : World) (os : PySem.OsState), (HandSHeadRun.endF (HandSHeadRun.stepQ (HandSHeadRun.denQ HandSHeadRun.tabQ) R.prog w) 20000 R.prog w os).map (fun s => HandSHeadRun.looksF R.prog (PySem.W.boot_heap w.params) s.abs) = some true := by
  intro w os
  kernel_rfl
theorem run_s : ∀ (w : World) (os : PySem.OsState), (HandSHeadRun.endF (HandSHeadRun.stepQ (HandSHeadRun.denQ HandSHeadRun.tabQ) R.prog w) 20000 R.prog w os).map (fun s => HandSHeadRun.seenQ (PySem.W.view R.prog keepAt) loose (PySem.importedModules R.prog.main.body) (fun s => PySem.W.xlAt (PySem.W.view R.prog keepAt) [] s && PySem.W.recOk R.toRowW.records s) s.abs) = some (PySem.W.openGood (PySem.W.view R.prog keepAt) loose) := by
  intro w os
  kernel_rfl
theorem run_o : ∀ (w : World) (os : PySem.OsState), (HandSHeadRun.endF (HandSHeadRun.stepQ (HandSHeadRun.denQ HandSHeadRun.tabQ) R.prog w) 20000 R.prog w os).map (fun s => ob s) = some (He5.valA fn) := by
  intro w os
  kernel_rfl
theorem run (w : World) : HandSHeadRun.RunEq R (PySem.W.view R.prog keepAt) hk ob 20000 loose w := fun os => by
  obtain ⟨s, e, l⟩ := Option.map_eq_some_iff.mp (run_l w os)
  have e2 := run_s w os
  have e3 := run_o w os
  rw [e] at e2 e3 ⊢
  exact congrArg some (Prod.ext l (Prod.ext (Option.some.inj e2) (Option.some.inj e3)))
theorem facts [TheW] {P : Program} {w : World} {K : PySem.W.Frag} {h : Heap} {mg : Str → Option Value} {f : Addr} (hw : TheW.w = w) (X : K.In h) (G : h.Ns mainGlobals mg) (hfa : mg ("law" : Str) = some (.ref f)) (c : SaysB fa fn K) :
    ∃ fd : FuncData, (∀ (s : Shared) (v : Value), BindsTo s fd ⟨[v], []⟩ [("_law_script", v)]) ∧ ∀ base : Heap, K.In base → base.Ns mainGlobals mg → GFn P w K mg base 12 f fd ["_law_script"] (spR K r_law 1) := by
  obtain ⟨fd, F⟩ := SaysB.def_ c 27 (d := q_law) rfl
  have e := hfa.symm.trans (He.glo_ok X G (SaysB.fact c 56 (f := fun K => (He.Fa.glo "law").ok K) rfl))
  cases e
  have b := FunD.bindsA (ps := ["_law_script"]) F fun _ _ _ _ _ _ us hl => match us, hl with | [_], _ => rfl
  refine ⟨fd, fun s v => b s [v] rfl, fun base _ _ => ?_⟩
  have e__law_head := e__law_head (P := P) (w := w) (base := base) hw X G c
  have m_Rule___str__ := e_Rule___str__ (P := P) (w := w) (base := base) hw X G c
  have m_Rule___bool__ := e_Rule___bool__ (P := P) (w := w) (base := base) hw X G c
  have m_Rule___len__ := e_Rule___len__ (P := P) (w := w) (base := base) hw X G c
  have m_Rule___repr__ := e_Rule___repr__ (P := P) (w := w) (base := base) hw X G c
  have p_Rule_rows := e_Rule_rows (P := P) (w := w) (base := base) hw X G c
  have p_Rule_text := e_Rule_text (P := P) (w := w) (base := base) hw X G c
  have p_Rule_plates := e_Rule_plates (P := P) (w := w) (base := base) hw X G c
  have p_Rule_away := e_Rule_away (P := P) (w := w) (base := base) hw X G c
  have e__law_shows := e__law_shows (P := P) (w := w) (base := base) hw X G c e__law_head m_Rule___str__ m_Rule___bool__ m_Rule___len__ m_Rule___repr__ p_Rule_rows p_Rule_text p_Rule_plates p_Rule_away
  have e_number_in := e_number_in (P := P) (w := w) (base := base) hw X G c
  have e_bounded := e_bounded (P := P) (w := w) (base := base) hw X G c e_number_in
  have e_head_in := e_head_in (P := P) (w := w) (base := base) hw X G c e_bounded
  have e_where_in := e_where_in (P := P) (w := w) (base := base) hw X G c e_bounded
  have e_day_in := e_day_in (P := P) (w := w) (base := base) hw X G c e_where_in e_bounded
  have e_wrong_rows := e_wrong_rows (P := P) (w := w) (base := base) hw X G c e_head_in e_day_in
  have k_Rule___init__ := e_Rule___init__ (P := P) (w := w) (base := base) hw X G c e_wrong_rows e_head_in e_day_in
  have e__law_draw := e__law_draw (P := P) (w := w) (base := base) hw X G c
  have e__law_of := e__law_of (P := P) (w := w) (base := base) hw X G c e__law_draw
  have e__law_take := e__law_take (P := P) (w := w) (base := base) hw X G c e__law_of e__law_draw
  have e__law_rows := e__law_rows (P := P) (w := w) (base := base) hw X G c e__law_of e__law_take e__law_draw
  have ⟨c_Rule_read, f0_Rule_read⟩ := e_Rule_read (P := P) (w := w) (base := base) hw X G c e_wrong_rows k_Rule___init__
  have e__law_made := e__law_made (P := P) (w := w) (base := base) hw X G c c_Rule_read
  have e__law_by_rows := e__law_by_rows (P := P) (w := w) (base := base) hw X G c k_Rule___init__ e__law_made
  have m_Rule___eq__ := e_Rule___eq__ (P := P) (w := w) (base := base) hw X G c p_Rule_rows
  have e__law_right := e__law_right (P := P) (w := w) (base := base) hw X G c e__law_rows e__law_by_rows e__law_shows c_Rule_read m_Rule___eq__ m_Rule___len__ p_Rule_text p_Rule_rows p_Rule_plates f0_Rule_read
  have e__law_spring := e__law_spring (P := P) (w := w) (base := base) hw X G c
  have E : Env1 P w K mg base T_law ρ 11   := env1 hw (fun x hx => free_ X G c x (sub_law x hx)) (fns_cons (e__law_shows.up (by decide)) (fns_cons (e__law_made.up (by decide)) (fns_cons (e__law_right.up (by decide)) (fns_cons (e__law_spring.up (by decide)) fns_nil)))) kws_nil cns_nil atts_nil mes_nil (mks_cons (k_Rule___init__.up (by decide)) mks_nil) cms_nil ios_nil fvs_nil (sp := (sps_cons (spt_cons (spe_of m_Rule___eq__ (by decide)) spt_nil) sps_nil))
  exact def_ok (r := r_law) (n := 1) (ps := ["_law_script"]) F sc_law E rfl t_law (fun _ _ _ => rfl)
end G
namespace G
open PySem PySem.Spec L2 Ev
variable [TheW]
inductive Wh | top | bot | un (k : Nat)
inductive Dy | turn | rest | cut (k : Nat) | take (a b : Nat) (w : Wh) (t : Bool)
def num (k : Nat) : Str := toString (k : Int)
def Wh.d : Wh → D
  | .top => .int 0
  | .bot => .non
  | .un k => .int k
def Wh.s : Wh → Str
  | .top => "top"
  | .bot => "bottom"
  | .un k => ("under " : Str) ++ num k
def Wh.ws : Wh → List Str
  | .top => ["top"]
  | .bot => ["bottom"]
  | .un k => ["under", num k]
def Wh.ok : Wh → Prop
  | .un k => 1 ≤ k ∧ k ≤ 9
  | _ => True
def ord (t : Bool) : Str := if t = true then "turned" else "kept"
def Dy.d : Dy → D
  | .turn => .tup [.str "turn", .int 0, .int 0, .non, .bl false]
  | .rest => .tup [.str "rest", .int 0, .int 0, .non, .bl false]
  | .cut k => .tup [.str "cut", .int k, .int 0, .non, .bl false]
  | .take a b w t => .tup [.str "take", .int a, .int b, w.d, .bl t]
def Dy.s : Dy → Str
  | .turn => "turn"
  | .rest => "rest"
  | .cut k => ("cut " : Str) ++ num k
  | .take a b w t => ("take " : Str) ++ num a ++ (" to " : Str) ++ num b ++ (" back " : Str) ++ w.s ++ (" " : Str) ++ ord t
def Dy.ws : Dy → List Str
  | .turn => ["turn"]
  | .rest => ["rest"]
  | .cut k => ["cut", num k]
  | .take a b w t => "take" :: num a :: "to" :: num b :: "back" :: (w.ws ++ [ord t])
def Dy.ok : Dy → Prop
  | .cut k => 1 ≤ k ∧ k ≤ 9
  | .take a b w _ => a ≤ b ∧ b ≤ 6 ∧ w.ok
  | _ => True
theorem num_signs {k : Nat} (h : k ≤ 10) : 32 ∉ (num k).cps.toList ∧ 10 ∉ (num k).cps.toList ∧ (num k).cps.toList.length ≤ 2 := by
  have : ∀ k < 11, 32 ∉ (num k).cps.toList ∧ 10 ∉ (num k).cps.toList ∧ (num k).cps.toList.length ≤ 2 := by decide +kernel
  exact this k (by omega)
theorem ord_signs (t : Bool) : 32 ∉ (ord t).cps.toList ∧ 10 ∉ (ord t).cps.toList ∧ (ord t).cps.toList.length ≤ 6 := by
  have : ∀ t : Bool, 32 ∉ (ord t).cps.toList ∧ 10 ∉ (ord t).cps.toList ∧ (ord t).cps.toList.length ≤ 6 := by decide +kernel
  exact this t
theorem Wh.signs {w : Wh} (o : w.ok) : ∀ x ∈ w.ws, 32 ∉ x.cps.toList ∧ 10 ∉ x.cps.toList := by
  intro x hx
  cases w with
  | top =>
    obtain rfl := List.mem_singleton.mp hx
    decide +kernel
  | bot =>
    obtain rfl := List.mem_singleton.mp hx
    decide +kernel
  | un k =>
    have q := num_signs (k := k) (by have := o.2; omega)
    simp only [Wh.ws, List.mem_cons, List.not_mem_nil, or_false] at hx
    rcases hx with rfl | rfl
    · decide +kernel
    · exact ⟨q.1, q.2.1⟩
theorem Dy.signs {d : Dy} (o : d.ok) : ∀ x ∈ d.ws, 32 ∉ x.cps.toList ∧ 10 ∉ x.cps.toList := by
  intro x hx
  cases d with
  | turn =>
    obtain rfl := List.mem_singleton.mp hx
    decide +kernel
  | rest =>
    obtain rfl := List.mem_singleton.mp hx
    decide +kernel
  | cut k =>
    have q := num_signs (k := k) (by have := o.2; omega)
    simp only [Dy.ws, List.mem_cons, List.not_mem_nil, or_false] at hx
    rcases hx with rfl | rfl
    · decide +kernel
    · exact ⟨q.1, q.2.1⟩
  | take a b w t =>
    obtain ⟨o1, o2, o3⟩ := o
    have q := num_signs (k := a) (by omega)
    have r := num_signs (k := b) (by omega)
    have z := ord_signs t
    simp only [Dy.ws, List.mem_cons, List.mem_append, List.not_mem_nil, or_false] at hx
    rcases hx with rfl | rfl | rfl | rfl | rfl | hx | rfl
    · decide +kernel
    · exact ⟨q.1, q.2.1⟩
    · decide +kernel
    · exact ⟨r.1, r.2.1⟩
    · decide +kernel
    · exact Wh.signs o3 x hx
    · exact ⟨z.1, z.2.1⟩
theorem num_ok {k : Nat} (h : k ≤ 10) : PyData.strOk (num k) = true := by
  have : ∀ k < 11, PyData.strOk (num k) = true := by decide +kernel
  exact this k (by omega)
theorem Wh.plain {w : Wh} (o : w.ok) : (w.ws.map D.str).all (Pl 0) = true := by
  cases w with
  | top => kernel_rfl
  | bot => kernel_rfl
  | un k =>
    show (PyData.strOk "under" && (PyData.strOk (num k) && true)) = true
    rw [num_ok (by have := o.2; omega)]; kernel_rfl
theorem Dy.plain {d : Dy} (o : d.ok) : (d.ws.map D.str).all (Pl 0) = true := by
  cases d with
  | turn => kernel_rfl
  | rest => kernel_rfl
  | cut k =>
    show (PyData.strOk "cut" && (PyData.strOk (num k) && true)) = true
    rw [num_ok (by have := o.2; omega)]; kernel_rfl
  | take a b w t =>
    obtain ⟨o1, o2, o3⟩ := o
    show (PyData.strOk "take" && (PyData.strOk (num a) && (PyData.strOk "to" && (PyData.strOk (num b) && (PyData.strOk "back" && ((w.ws ++ [ord t]).map D.str).all (Pl 0)))))) = true
    rw [num_ok (by omega), num_ok (by omega), List.map_append, List.all_append, Wh.plain o3]
    cases t <;> kernel_rfl
theorem app3 (a b c : Str) : a ++ b ++ c = a ++ (b ++ c) := TL.ext_tl (by simp only [TL.tl_append, List.append_assoc])
theorem Dy.joined (d : Dy) : d.s = Str.join " " d.ws := by
  have a1 : ("take " : Str) = ("take" : Str) ++ (" " : Str) := by decide +kernel
  have a2 : (" to " : Str) = (" " : Str) ++ (("to" : Str) ++ (" " : Str)) := by decide +kernel
  have a3 : (" back " : Str) = (" " : Str) ++ (("back" : Str) ++ (" " : Str)) := by decide +kernel
  have a4 : ("cut " : Str) = ("cut" : Str) ++ (" " : Str) := by decide +kernel
  have a5 : ("under " : Str) = ("under" : Str) ++ (" " : Str) := by decide +kernel
  cases d with
  | turn => rfl
  | rest => rfl
  | cut k => simp only [Dy.s, Dy.ws, Str.join, a4]
  | take a b w t => cases w <;> simp only [Dy.s, Dy.ws, Wh.s, Wh.ws, Str.join, List.cons_append, List.nil_append, a1, a2, a3, a5, app3]
theorem join_mem {y : Str} {c : Nat} (hy : c ∉ y.cps.toList) : ∀ {ps : List Str}, (∀ p ∈ ps, c ∉ p.cps.toList) → c ∉ (Str.join y ps).cps.toList
  | [], _ => by
    show c ∉ ([] : List Nat)
    simp
  | [p], h => h p (List.mem_singleton.mpr rfl)
  | p :: q :: r, h => by
    have ih := join_mem hy (ps := q :: r) fun z hz => h z (List.mem_cons_of_mem _ hz)
    show c ∉ TL.tl (p ++ y ++ Str.join y (q :: r))
    rw [TL.tl_append, TL.tl_append, List.mem_append, List.mem_append]
    rintro ((k | k) | k)
    · exact h p (List.mem_cons_self ..) k
    · exact hy k
    · exact ih k
theorem Dy.split {d : Dy} (o : d.ok) : Txt.split d.s " " = d.ws := by
  rw [Dy.joined, ← TL.join_eq]
  exact TL.split_join (s := 32) (S := []) (by decide +kernel) (by decide +kernel) (by cases d <;> simp [Dy.ws]) fun p hp => (Dy.signs o p hp).1
theorem Dy.nl {d : Dy} (o : d.ok) : 10 ∉ d.s.cps.toList := by
  rw [Dy.joined]
  exact join_mem (by decide +kernel) fun p hp => (Dy.signs o p hp).2
theorem len_app (a b : Str) : (a ++ b).length = a.length + b.length := by rw [TL.len_tl, TL.tl_append, List.length_append, ← TL.len_tl, ← TL.len_tl]
theorem num_len {k : Nat} (h : k ≤ 10) : (num k).length ≤ 2 := (num_signs h).2.2
theorem ord_len (t : Bool) : (ord t).length ≤ 6 := (ord_signs t).2.2
theorem lens : ("take " : Str).length = 5 ∧ (" to " : Str).length = 4 ∧ (" back " : Str).length = 6 ∧ (" " : Str).length = 1 ∧ ("under " : Str).length = 6 ∧ ("cut " : Str).length = 4 ∧ ("top" : Str).length = 3 ∧ ("bottom" : Str).length = 6 ∧ ("turn" : Str).length = 4 ∧ ("rest" : Str).length = 4 ∧ ("plates " : Str).length = 7 ∧ (" away " : Str).length = 6 := by decide +kernel
theorem Wh.len {w : Wh} (o : w.ok) : w.s.length ≤ 8 := by
  obtain ⟨l1, l2, l3, l4, l5, l6, l7, l8, l9, l10, l11, l12⟩ := lens
  cases w with
  | top => show ("top" : Str).length ≤ 8; omega
  | bot => show ("bottom" : Str).length ≤ 8; omega
  | un k =>
    have := num_len (k := k) (by have := o.2; omega)
    show (_ ++ _ : Str).length ≤ 8
    rw [len_app]; omega
theorem Dy.len {d : Dy} (o : d.ok) : d.s.length ≤ 60 := by
  obtain ⟨l1, l2, l3, l4, l5, l6, l7, l8, l9, l10, l11, l12⟩ := lens
  cases d with
  | turn => show ("turn" : Str).length ≤ 60; omega
  | rest => show ("rest" : Str).length ≤ 60; omega
  | cut k =>
    have := num_len (k := k) (by have := o.2; omega)
    show (_ ++ _ : Str).length ≤ 60
    rw [len_app]; omega
  | take a b w t =>
    obtain ⟨o1, o2, o3⟩ := o
    have := num_len (k := a) (by omega)
    have := num_len (k := b) (by omega)
    have := Wh.len o3
    have := ord_len t
    show (_ ++ _ ++ _ ++ _ ++ _ ++ _ ++ _ ++ _ : Str).length ≤ 60
    simp only [len_app]; omega
def hd (m l : Nat) : Str := ("plates " : Str) ++ num m ++ (" away " : Str) ++ num l
def hdw (m l : Nat) : List Str := ["plates", num m, "away", num l]
theorem hd_split {m l : Nat} (hm : m ≤ 10) (hl : l ≤ 2) : Txt.split (hd m l) " " = hdw m l := by
  have : ∀ m < 11, ∀ l < 3, Txt.split (hd m l) " " = hdw m l := by decide +kernel
  exact this m (by omega) l (by omega)
theorem hd_nl {m l : Nat} (hm : m ≤ 10) (hl : l ≤ 2) : 10 ∉ (hd m l).cps.toList := by
  have : ∀ m < 11, ∀ l < 3, 10 ∉ (hd m l).cps.toList := by decide +kernel
  exact this m (by omega) l (by omega)
theorem hd_len {m l : Nat} (hm : m ≤ 10) (hl : l ≤ 2) : (hd m l).length ≤ 60 := by
  have : ∀ m < 11, ∀ l < 3, (hd m l).length ≤ 60 := by decide +kernel
  exact this m (by omega) l (by omega)
structure Ru where
  m : Nat
  l : Nat
  pl : List Dy
structure Ru.ok (r : Ru) : Prop where
  m2 : 2 ≤ r.m
  m10 : r.m ≤ 10
  l2 : r.l ≤ 2
  n1 : 1 ≤ r.pl.length
  n6 : r.pl.length ≤ 6
  ok : ∀ d ∈ r.pl, d.ok
def Ru.rows (r : Ru) : List Str := hd r.m r.l :: r.pl.map Dy.s
def Ru.rd (r : Ru) : List D := r.rows.map D.str
def ruK : List Str := ["told", "many", "late", "plan"]
def Ru.vs (r : Ru) : List D := [.tup r.rd, .int r.m, .int r.l, .lst (r.pl.map Dy.d)]
def Ru.d (r : Ru) : D := .ins "Rule" ruK r.vs
theorem Ru.len (r : Ru) : r.rd.length = r.pl.length + 1 := by unfold Ru.rd Ru.rows; simp
theorem und_strs (b : Nat) : ∀ xs : List Str, D.undAll b (xs.map D.str) = true
  | [] => rfl
  | x :: xs => by
    show (D.und b (.str x) && D.undAll b (xs.map D.str)) = true
    rw [und_strs b xs]; rfl
theorem Dy.und (b : Nat) (d : Dy) : D.und b d.d = true := by
  cases d with
  | take a b' w t => cases w <;> rfl
  | _ => rfl
theorem und_days (b : Nat) : ∀ xs : List Dy, D.undAll b (xs.map Dy.d) = true
  | [] => rfl
  | x :: xs => by
    show (D.und b x.d && D.undAll b (xs.map Dy.d)) = true
    rw [und_days b xs, Dy.und]; rfl
theorem Ru.und (b : Nat) (r : Ru) : D.und b r.d = true := by
  show (D.undAll b (r.rows.map D.str) && (true && (true && (D.undAll b (r.pl.map Dy.d) && true)))) = true
  rw [und_strs, und_days]; rfl
theorem join_len {y : Str} {c : Nat} (hy : y.length ≤ 1) : ∀ {ps : List Str}, (∀ p ∈ ps, p.length ≤ c) → (Str.join y ps).length ≤ ps.length * (c + 1)
  | [], _ => Nat.zero_le _
  | [p], h => by
    have := h p (List.mem_singleton.mpr rfl)
    show p.length ≤ 1 * (c + 1)
    omega
  | p :: q :: r, h => by
    have ih := join_len hy (ps := q :: r) fun z hz => h z (List.mem_cons_of_mem _ hz)
    have := h p (List.mem_cons_self ..)
    show (p ++ y ++ Str.join y (q :: r)).length ≤ (r.length + 1 + 1) * (c + 1)
    rw [len_app, len_app, Nat.add_mul]
    rw [List.length_cons] at ih
    omega
theorem Ru.row {r : Ru} (o : r.ok) : ∀ p ∈ r.rows, p.length ≤ 60 ∧ 10 ∉ p.cps.toList := by
  intro p hp
  rcases List.mem_cons.mp hp with rfl | hp
  · exact ⟨hd_len o.m10 o.l2, hd_nl o.m10 o.l2⟩
  · obtain ⟨d, hd, rfl⟩ := List.mem_map.mp hp
    exact ⟨Dy.len (o.ok d hd), Dy.nl (o.ok d hd)⟩
theorem Ru.split {r : Ru} (o : r.ok) : Txt.split (Txt.join "\n" r.rows) "\n" = r.rows :=
  TL.split_join (s := 10) (S := []) (by decide +kernel) (by decide +kernel) (by unfold Ru.rows; simp) fun p hp => (Ru.row o p hp).2
theorem Ru.tlen {r : Ru} (o : r.ok) : (Txt.join "\n" r.rows).length ≤ 500 := by
  rw [TL.join_eq]
  have z := join_len (y := "\n") (c := 60) (by decide +kernel) (ps := r.rows) fun p hp => (Ru.row o p hp).1
  have e : r.rows.length = r.pl.length + 1 := by unfold Ru.rows; simp
  have := o.n6
  rw [e] at z
  omega
def plt (xs : List Int) : D := .tup (xs.map D.int)
structure Sta where
  day : Nat
  ly : List Int
  hp : List (List Int)
def Sta.d (s : Sta) : D := .tup [.int s.day, plt s.ly, .tup (s.hp.map plt)]
def Dy.mv : Dy → List Int → List Int
  | .turn, l => l.reverse
  | .cut k, l => if k < l.length then l.drop k ++ l.take k else l
  | _, l => l
def Wh.ab : Wh → Nat → Nat
  | .top, _ => 0
  | .bot, n => n
  | .un k, n => min k n
def hpt (t : Bool) (l : List Int) : List Int := if t = true then l.reverse else l
def Dy.bk : Dy → List Int → List Int → List Int
  | .take _ _ w t, l, p => l.take (w.ab l.length) ++ hpt t p ++ l.drop (w.ab l.length)
  | _, l, _ => l
def Ru.at (r : Ru) (i : Int) : Dy := r.pl.getD (i % r.pl.length).toNat .rest
def Ru.nx (r : Ru) (s : Sta) (k : Nat) : Sta :=
  ⟨s.day + 1, (r.at ((s.day : Int) - r.l)).bk ((r.at s.day).mv (s.ly.drop k)) ((s.hp ++ [s.ly.take k]).headD []), (s.hp ++ [s.ly.take k]).tail⟩
def Dy.sp : Dy → Nat → List Nat
  | .take a b _ _, n => (List.range (min b n + 1 - a)).map (a + ·)
  | _, _ => [0]
structure Sta.ok (r : Ru) (s : Sta) : Prop where
  hl : s.hp.length = r.l
  tot : s.ly.length + (s.hp.map List.length).sum ≤ r.m
  dig : ∀ x ∈ s.ly, 0 ≤ x ∧ x < r.m
  digs : ∀ p ∈ s.hp, ∀ x ∈ p, 0 ≤ x ∧ x < r.m
def Ru.val (r : Ru) : Sta → List Nat → Prop
  | _, [] => True
  | s, k :: ks => k ∈ (r.at s.day).sp s.ly.length ∧ r.val (r.nx s k) ks
def Ru.sts (r : Ru) : Sta → List Nat → List Sta
  | s, [] => [s]
  | s, k :: ks => s :: r.sts (r.nx s k) ks
def Ru.tks (r : Ru) : Sta → List Nat → List (List Int)
  | _, [] => []
  | s, k :: ks => s.ly.take k :: r.tks (r.nx s k) ks
def Ru.one (r : Ru) : Sta := ⟨0, (List.range r.m).map fun i : Nat => (i : Int), List.replicate r.l []⟩
theorem cut_take {xs : List D} (k : Nat) : cutD xs none (some (k : Int)) = xs.take k := by
  unfold cutD
  rw [HT.sIx_nat, HT.sIx_none, List.drop_zero, Nat.sub_zero]
  by_cases h : k ≤ xs.length
  · rw [Nat.min_eq_left h]
  · rw [Nat.min_eq_right (by omega), List.take_of_length_le (Nat.le_refl _), List.take_of_length_le (by omega)]
theorem cut_drop {xs : List D} (k : Nat) : cutD xs (some (k : Int)) none = xs.drop k := by
  unfold cutD
  rw [HT.sIx_nat, HT.sIx_none]
  by_cases h : k ≤ xs.length
  · rw [Nat.min_eq_left h, List.take_of_length_le (by simp)]
  · rw [Nat.min_eq_right (by omega), List.drop_of_length_le (Nat.le_refl _), List.drop_of_length_le (by omega), List.take_nil]
theorem Ru.at_ix {r : Ru} (o : r.ok) (i : Int) : ∃ j : Nat, (i % (r.pl.length : Int)) = j ∧ j < r.pl.length ∧ ∃ hj : j < r.pl.length, r.at i = r.pl[j] := by
  have n1 := o.n1
  have e0 := Int.emod_nonneg i (show (r.pl.length : Int) ≠ 0 by omega)
  have e1 := Int.emod_lt_of_pos i (show (0 : Int) < r.pl.length by omega)
  obtain ⟨j, ej⟩ := Int.eq_ofNat_of_zero_le e0
  have hj : j < r.pl.length := by omega
  refine ⟨j, ej, hj, hj, ?_⟩
  unfold Ru.at
  rw [ej, Int.toNat_natCast, List.getD_eq_getElem?_getD, List.getElem?_eq_getElem hj]; rfl
theorem Ru.at_ok {r : Ru} (o : r.ok) (i : Int) : (r.at i).ok := by
  obtain ⟨j, _, _, hj, e⟩ := Ru.at_ix o i
  rw [e]
  exact o.ok _ (List.getElem_mem hj)
theorem Dy.mv_len (d : Dy) (l : List Int) : (d.mv l).length = l.length := by
  cases d with
  | turn => simp [Dy.mv]
  | cut k =>
    simp only [Dy.mv]
    split
    · simp; omega
    · rfl
  | _ => rfl
theorem Dy.mv_mem (d : Dy) (l : List Int) : ∀ x ∈ d.mv l, x ∈ l := by
  cases d with
  | turn => intro x hx; simpa [Dy.mv] using hx
  | cut k =>
    intro x hx
    simp only [Dy.mv] at hx
    split at hx
    · rcases List.mem_append.mp hx with h | h
      · exact List.mem_of_mem_drop h
      · exact List.mem_of_mem_take h
    · exact hx
  | _ => intro x hx; exact hx
theorem Dy.bk_len (d : Dy) (l p : List Int) : (d.bk l p).length ≤ l.length + p.length := by
  cases d with
  | take a b w t =>
    simp only [Dy.bk, List.length_append, List.length_take, List.length_drop]
    have : (hpt t p).length = p.length := by unfold hpt; split <;> simp
    omega
  | _ => exact Nat.le_add_right _ _
theorem Dy.bk_mem (d : Dy) (l p : List Int) : ∀ x ∈ d.bk l p, x ∈ l ∨ x ∈ p := by
  cases d with
  | take a b w t =>
    intro x hx
    simp only [Dy.bk, List.mem_append] at hx
    rcases hx with (h | h) | h
    · exact .inl (List.mem_of_mem_take h)
    · refine .inr ?_
      unfold hpt at h
      split at h
      · exact List.mem_reverse.mp h
      · exact h
    · exact .inl (List.mem_of_mem_drop h)
  | _ => intro x hx; exact .inl hx
theorem Ru.nx_ok {r : Ru} {s : Sta} (k : Nat) (o : s.ok r) : (r.nx s k).ok r := by
  obtain ⟨o1, o2, o3, o4⟩ := o
  have hs : ∀ p ∈ s.hp ++ [s.ly.take k], ∀ x ∈ p, 0 ≤ x ∧ x < r.m := by
    intro p hp x hx
    rcases List.mem_append.mp hp with hp | hp
    · exact o4 p hp x hx
    · rw [List.mem_singleton.mp hp] at hx
      exact o3 x (List.mem_of_mem_take hx)
  have tt : ((s.hp ++ [s.ly.take k]).map List.length).sum + (s.ly.drop k).length = s.ly.length + (s.hp.map List.length).sum := by
    simp; omega
  obtain ⟨p, ps, e⟩ : ∃ p ps, s.hp ++ [s.ly.take k] = p :: ps := by
    cases h : s.hp with
    | nil => exact ⟨_, _, rfl⟩
    | cons a b => exact ⟨_, _, rfl⟩
  have lp : ps.length = s.hp.length := by
    have := congrArg List.length e
    simp at this; omega
  unfold Ru.nx
  rw [e] at hs tt ⊢
  refine ⟨by simpa [lp] using o1, ?_, ?_, ?_⟩
  · have b := Dy.bk_len (r.at ((s.day : Int) - r.l)) ((r.at s.day).mv (s.ly.drop k)) p
    rw [Dy.mv_len] at b
    simp only [List.map_cons, List.sum_cons, List.headD_cons, List.tail_cons] at tt ⊢
    omega
  · intro x hx
    rcases Dy.bk_mem _ _ _ x hx with h | h
    · exact o3 x (List.mem_of_mem_drop (Dy.mv_mem _ _ x h))
    · exact hs p (List.mem_cons_self ..) x h
  · intro q hq
    exact hs q (List.mem_cons_of_mem _ hq)
theorem rep_sum : ∀ n : Nat, ((List.replicate n ([] : List Int)).map List.length).sum = 0
  | 0 => rfl
  | n + 1 => by rw [List.replicate_succ, List.map_cons, List.sum_cons, rep_sum n]; rfl
theorem Ru.one_ok (r : Ru) : r.one.ok r := by
  refine ⟨by simp [Ru.one], ?_, ?_, ?_⟩
  · simp only [Ru.one, rep_sum]; simp
  · intro x hx
    obtain ⟨i, hi, rfl⟩ := List.mem_map.mp hx
    have := List.mem_range.mp hi
    omega
  · intro p hp x hx
    rw [List.eq_of_mem_replicate hp] at hx
    cases hx
theorem und_plt (b : Nat) (xs : List Int) : D.und b (plt xs) = true := by
  show D.undAll b (xs.map D.int) = true
  induction xs with
  | nil => rfl
  | cons x xs ih =>
    show (true && D.undAll b (xs.map D.int)) = true
    rw [ih]; rfl
theorem und_plts (b : Nat) : ∀ ps : List (List Int), D.undAll b (ps.map plt) = true
  | [] => rfl
  | p :: ps => by
    show (D.und b (plt p) && D.undAll b (ps.map plt)) = true
    rw [und_plt, und_plts b ps]; rfl
theorem Sta.und (b : Nat) (s : Sta) : D.und b s.d = true := by
  show (true && (D.und b (plt s.ly) && (D.undAll b (s.hp.map plt) && true))) = true
  rw [und_plt, und_plts]; rfl
theorem sp_lt {d : Dy} {n k : Nat} (o : d.ok) (h : k ∈ d.sp n) : k ≤ 6 ∧ k ≤ n := by
  cases d with
  | take a b w t =>
    obtain ⟨i, hi, rfl⟩ := List.mem_map.mp h
    have := List.mem_range.mp hi
    obtain ⟨o1, o2, o3⟩ := o
    omega
  | _ =>
    rw [List.mem_singleton.mp h]
    omega

section
variable {n : Nat} {h : Hs} {x : Cl} {Q : D → Hs → Prop}
theorem sizeL {a : Nat} (h : a ≤ 1000) : a ≤ sizeLine := by rw [show sizeLine = 16777216 from rfl]; omega
theorem fz {d : D} (u : d.und h.length = true) (q : Q d h) : ∃ d', frz h.length h 6 d = some d' ∧ Q d' (h.take h.length) := by
  refine ⟨_, frz_low u, ?_⟩
  rw [List.take_length]; exact q
theorem number_is {k : Nat} (hk : k ≤ 10) (hQ : Q (.int k) h) : (r_number_in [.str (num k)] h).is Q := by
  refine run_is rfl (Nat.le_of_ble_eq_true rfl) ?_
  have fin : ∀ {d : D}, d = .int k → ∃ d', frz h.length h 6 d = some d' ∧ Q d' (h.take h.length) := by
    rintro d rfl
    refine ⟨_, rfl, ?_⟩
    rw [List.take_length]; exact hQ
  have : k = 0 ∨ k = 1 ∨ k = 2 ∨ k = 3 ∨ k = 4 ∨ k = 5 ∨ k = 6 ∨ k = 7 ∨ k = 8 ∨ k = 9 ∨ k = 10 := by omega
  rcases this with rfl | rfl | rfl | rfl | rfl | rfl | rfl | rfl | rfl | rfl | rfl
  · exact rt_is (d := .int 0) (h' := h) (by kernel_rfl) (fin rfl)
  · exact rt_is (d := .int 1) (h' := h) (by kernel_rfl) (fin rfl)
  · exact rt_is (d := .int 2) (h' := h) (by kernel_rfl) (fin rfl)
  · exact rt_is (d := .int 3) (h' := h) (by kernel_rfl) (fin rfl)
  · exact rt_is (d := .int 4) (h' := h) (by kernel_rfl) (fin rfl)
  · exact rt_is (d := .int 5) (h' := h) (by kernel_rfl) (fin rfl)
  · exact rt_is (d := .int 6) (h' := h) (by kernel_rfl) (fin rfl)
  · exact rt_is (d := .int 7) (h' := h) (by kernel_rfl) (fin rfl)
  · exact rt_is (d := .int 8) (h' := h) (by kernel_rfl) (fin rfl)
  · exact rt_is (d := .int 9) (h' := h) (by kernel_rfl) (fin rfl)
  · exact rt_is (d := .int 10) (h' := h) (by kernel_rfl) (fin rfl)
theorem int_num {k : Nat} (hk : k ≤ 10) : fInt (.str (num k)) h = some (.int k) := by
  have : k = 0 ∨ k = 1 ∨ k = 2 ∨ k = 3 ∨ k = 4 ∨ k = 5 ∨ k = 6 ∨ k = 7 ∨ k = 8 ∨ k = 9 ∨ k = 10 := by omega
  rcases this with rfl | rfl | rfl | rfl | rfl | rfl | rfl | rfl | rfl | rfl | rfl <;> kernel_rfl
theorem bounded_is {k : Nat} {a b : Int} (hk : k ≤ 10) (ha : a ≤ k) (hb : k ≤ b) (hQ : Q (.int k) h) : (r_bounded [.str (num k), .int a, .int b] h).is Q := by
  refine run_is rfl (Nat.le_of_ble_eq_true rfl) ?_
  refine st fun K hk' => ?_
  show (sAsg _ _ [some (.str (num k)), some (.int a), some (.int b), none] h).is _ _
  simp only [dC_is, dVar_z, dVar_s, aNil_is, aCons_is, dTup_is, dLst_is, dBin_is, dB1_is, dB2_is, dIx_is, dCall_is, dCallK_is, tCm_is, tChn_is, dOf_is, tTru_is, tNt_is, tAn_is, tOr_is, dIf_is, dNt_is, add_ii, sub_ii, mul_ii, div_ii, mod_ii, pow_ii, lt_ii, le_ii, gt_ii, ge_ii, cop_eq, cop_ne, tru_b, int_i, int_b, abs_i, max_ii, min_ii, eq_ii, eq_ss, eq_ll, eq_tt, is_asg, is_if, is_par, is_ret, is_expr, gNm_is, is_pass, is_seq, setsE, permL, List.set_cons_succ, List.set_cons_zero, List.length_cons, List.length_nil, true_and, and_true, Option.some.injEq, exists_eq_left', exists_eq_left, Nat.zero_add, Nat.reduceAdd, Nat.reduceLT, List.set_set, Option.map_some, ite_true, ite_false, Bool.false_eq_true, if_true, if_false]
  refine number_is hk (hk' _ _ ?_)
  have n1 : cop .IsNot (.int k) .non h = some true := rfl
  simp only [dC_is, dVar_z, dVar_s, aNil_is, aCons_is, dTup_is, dLst_is, dBin_is, dB1_is, dB2_is, dIx_is, dCall_is, dCallK_is, tCm_is, tChn_is, dOf_is, tTru_is, tNt_is, tAn_is, tOr_is, dIf_is, dNt_is, add_ii, sub_ii, mul_ii, div_ii, mod_ii, pow_ii, lt_ii, le_ii, gt_ii, ge_ii, cop_eq, cop_ne, tru_b, int_i, int_b, abs_i, max_ii, min_ii, eq_ii, eq_ss, eq_ll, eq_tt, is_asg, is_if, is_par, is_ret, is_expr, gNm_is, is_pass, is_seq, setsE, permL, List.set_cons_succ, List.set_cons_zero, List.length_cons, List.length_nil, true_and, and_true, Option.some.injEq, exists_eq_left', exists_eq_left, Nat.zero_add, Nat.reduceAdd, Nat.reduceLT, List.set_set, Option.map_some, ite_true, ite_false, Bool.false_eq_true, if_true, if_false]
  simp only [n1, Option.some.injEq, exists_eq_left', decide_eq_true ha, decide_eq_true hb, if_true]
  refine ⟨_, rfl, ?_⟩
  rw [List.take_length]
  exact hQ
theorem where_is {w : Wh} (o : w.ok) (hQ : Q w.d h) : (r_where_in [.lst (w.ws.map D.str)] h).is Q := by
  refine run_is rfl (Nat.le_of_ble_eq_true rfl) ?_
  cases w with
  | top =>
    refine rt_is (d := .int 0) (h' := h) (by kernel_rfl) ⟨_, rfl, ?_⟩
    rw [List.take_length]; exact hQ
  | bot =>
    refine rt_is (d := .non) (h' := h) (by kernel_rfl) ⟨_, rfl, ?_⟩
    rw [List.take_length]; exact hQ
  | un k =>
    obtain ⟨o1, o2⟩ := o
    show (d_where_in [some (.lst [.str "under", .str (num k)])] h).is _ _
    have p1 : Pl 1 (.lst [.str "under", .str (num k)]) = true := Wh.plain (w := .un k) ⟨o1, o2⟩
    have c1 : eqS (.lst [.str "under", .str (num k)]) (.lst [.str "top"]) h = some false := (eqS_pl (n := 1) (by decide) p1 (by kernel_rfl)).trans (by kernel_rfl)
    have c2 : eqS (.lst [.str "under", .str (num k)]) (.lst [.str "bottom"]) h = some false := (eqS_pl (n := 1) (by decide) p1 (by kernel_rfl)).trans (by kernel_rfl)
    refine st fun K hk => no_is ?_
    simp only [tCm_is, dVar_z, dVar_s, dLst_is, aCons_is, aNil_is, dC_is, cop_eq, c1, Option.some.injEq, exists_eq_left']
    refine ⟨by decide +kernel, trivial, hk _ _ (st fun K hk => no_is ?_)⟩
    simp only [tCm_is, dVar_z, dVar_s, dLst_is, aCons_is, aNil_is, dC_is, cop_eq, c2, Option.some.injEq, exists_eq_left']
    refine ⟨by decide +kernel, trivial, hk _ _ (st fun K hk => ?_)⟩
    have e1 : cop .Eq (.int 2) (.int 2) h = some true := rfl
    have e2 : fLen (.lst [.str "under", .str (num k)]) h = some (.int 2) := rfl
    have e3 : ixO (.lst [.str "under", .str (num k)]) (.int 0) h = some (.str "under") := rfl
    have e4 : ixO (.lst [.str "under", .str (num k)]) (.int 1) h = some (.str (num k)) := rfl
    have e5 : (("under" : Str) == "under") = true := rfl
    have n1 : cop .IsNot (.int k) .non h = some true := rfl
    simp only [dC_is, dVar_z, dVar_s, aNil_is, aCons_is, dTup_is, dLst_is, dBin_is, dB1_is, dB2_is, dIx_is, dCall_is, dCallK_is, tCm_is, tChn_is, dOf_is, tTru_is, tNt_is, tAn_is, tOr_is, dIf_is, dNt_is, add_ii, sub_ii, mul_ii, div_ii, mod_ii, pow_ii, lt_ii, le_ii, gt_ii, ge_ii, cop_eq, cop_ne, tru_b, int_i, int_b, abs_i, max_ii, min_ii, eq_ii, eq_ss, eq_ll, eq_tt, is_asg, is_if, is_par, is_ret, is_expr, gNm_is, is_pass, is_seq, setsE, permL, List.set_cons_succ, List.set_cons_zero, List.length_cons, List.length_nil, true_and, and_true, Option.some.injEq, exists_eq_left', exists_eq_left, Nat.zero_add, Nat.reduceAdd, Nat.reduceLT, List.set_set, Option.map_some, ite_true, ite_false, Bool.false_eq_true, if_true, if_false]
    simp only [e2, e3, e4, e5, Option.some.injEq, exists_eq_left', eq_ii, eq_ss, decide_true, if_true]
    refine bounded_is (by omega) (by omega) (by omega) ?_
    simp only [n1, e4, int_num (show k ≤ 10 by omega), Option.some.injEq, exists_eq_left', if_true]
    refine ⟨_, rfl, ?_⟩
    rw [List.take_length]
    exact hQ
theorem day_is {d : Dy} (o : d.ok) (hQ : Q d.d h) : (r_day_in [.str d.s] h).is Q := by
  have sp : splitD (.str d.s) (.str " ") = some (.lst (d.ws.map D.str)) := by
    show (if ((" " : Str).length == 0) = false then if d.s.length + 2 ≤ sizeLine then some (D.lst ((Txt.split d.s " ").map D.str)) else none else none) = _
    rw [if_pos (by decide +kernel), if_pos (by have := Dy.len o; rw [show sizeLine = 16777216 from rfl]; omega), Dy.split o]
  have is : fIsi .str (.str d.s) h = some (.bl true) := rfl
  refine run_is rfl (Nat.le_of_ble_eq_true rfl) ?_
  refine st fun K hk => ?_
  show (sAsg _ _ [some (.str d.s), none, none, none, none] h).is _ _
  simp only [is_asg, dIf_is, tTru_is, dB1_is, dVar_z, dVar_s, is, Option.some.injEq, exists_eq_left', tru_b, if_true, tm_is, dC_is, sp, asS, gNm_is]
  refine ⟨Nat.le_of_ble_eq_true rfl, hk _ _ ?_⟩
  clear hk sp is
  have fin : ∀ {v : D}, v = d.d → v.und h.length = true → ∃ d', frz h.length h 6 v = some d' ∧ Q d' (h.take h.length) := by
    rintro v rfl u
    refine ⟨_, frz_low u, ?_⟩
    rw [List.take_length]; exact hQ
  cases d with
  | turn => exact rt_is (d := Dy.d .turn) (h' := h) (by kernel_rfl) (fin rfl rfl)
  | rest => exact rt_is (d := Dy.d .rest) (h' := h) (by kernel_rfl) (fin rfl rfl)
  | cut k =>
    obtain ⟨o1, o2⟩ := o
    generalize Dy.s (.cut k) = s
    show (sSeq _ _ [some (.str s), some (.lst [.str "cut", .str (num k)]), none, none, none] h).is _ _
    have p1 : Pl 1 (.lst [.str "cut", .str (num k)]) = true := Dy.plain (d := .cut k) ⟨o1, o2⟩
    have c1 : cop .In (.lst [.str "cut", .str (num k)]) (.tup [.lst [.str "turn"], .lst [.str "rest"]]) h = some false := by
      rw [cop_in]
      exact (in_tup (n := 1) (by decide) p1 (by kernel_rfl)).trans (by kernel_rfl)
    refine st fun K hk => no_is ?_
    simp only [tCm_is, dVar_z, dVar_s, dTup_is, dLst_is, aCons_is, aNil_is, dC_is, c1, Option.some.injEq, exists_eq_left']
    refine ⟨by decide +kernel, by decide +kernel, by decide +kernel, trivial, hk _ _ (st fun K hk => ?_)⟩
    have e2 : fLen (.lst [.str "cut", .str (num k)]) h = some (.int 2) := rfl
    have e3 : ixO (.lst [.str "cut", .str (num k)]) (.int 0) h = some (.str "cut") := rfl
    have e4 : ixO (.lst [.str "cut", .str (num k)]) (.int 1) h = some (.str (num k)) := rfl
    have e5 : (("cut" : Str) == "cut") = true := rfl
    have n1 : cop .IsNot (.int k) .non h = some true := rfl
    simp only [dC_is, dVar_z, dVar_s, aNil_is, aCons_is, dTup_is, dLst_is, dBin_is, dB1_is, dB2_is, dIx_is, dCall_is, dCallK_is, tCm_is, tChn_is, dOf_is, tTru_is, tNt_is, tAn_is, tOr_is, dIf_is, dNt_is, add_ii, sub_ii, mul_ii, div_ii, mod_ii, pow_ii, lt_ii, le_ii, gt_ii, ge_ii, cop_eq, cop_ne, tru_b, int_i, int_b, abs_i, max_ii, min_ii, eq_ii, eq_ss, eq_ll, eq_tt, is_asg, is_if, is_par, is_ret, is_expr, gNm_is, is_pass, is_seq, setsE, permL, List.set_cons_succ, List.set_cons_zero, List.length_cons, List.length_nil, true_and, and_true, Option.some.injEq, exists_eq_left', exists_eq_left, Nat.zero_add, Nat.reduceAdd, Nat.reduceLT, List.set_set, Option.map_some, ite_true, ite_false, Bool.false_eq_true, if_true, if_false]
    simp only [e2, e3, e4, e5, Option.some.injEq, exists_eq_left', eq_ii, eq_ss, decide_true, if_true]
    refine bounded_is (by omega) (by omega) (by omega) ?_
    simp only [n1, e4, int_num (show k ≤ 10 by omega), Option.some.injEq, exists_eq_left', if_true]
    exact ⟨by decide +kernel, fin rfl rfl⟩
  | take a b w t =>
    obtain ⟨o1, o2, o3⟩ := o
    generalize Dy.s (.take a b w t) = s
    obtain ⟨ws, ew⟩ : ∃ ws : D, D.lst ((Dy.ws (.take a b w t)).map D.str) = ws := ⟨_, rfl⟩
    rw [ew]
    show (sSeq _ _ [some (.str s), some ws, none, none, none] h).is _ _
    have a1 : cop .In ws (.tup [.lst [.str "turn"], .lst [.str "rest"]]) h = some false := by
      rw [← ew]
      have p1 : Pl 1 (.lst ((Dy.ws (.take a b w t)).map D.str)) = true := Dy.plain (d := .take a b w t) ⟨o1, o2, o3⟩
      rw [cop_in]
      exact (in_tup (n := 1) (by decide) p1 (by kernel_rfl)).trans (by kernel_rfl)
    have l1 : ∃ n : Nat, fLen ws h = some (.int n) ∧ 7 ≤ n := by
      rw [← ew]
      cases w
      · exact ⟨7, rfl, by omega⟩
      · exact ⟨7, rfl, by omega⟩
      · exact ⟨8, rfl, by omega⟩
    obtain ⟨n, l1, l2⟩ := l1
    have i0 : ∀ h', ixO ws (.int 0) h' = some (.str "take") := fun h' => by rw [← ew]; cases w <;> rfl
    have i1 : ∀ h', ixO ws (.int 1) h' = some (.str (num a)) := fun h' => by rw [← ew]; cases w <;> rfl
    have i2 : ∀ h', ixO ws (.int 2) h' = some (.str "to") := fun h' => by rw [← ew]; cases w <;> rfl
    have i3 : ∀ h', ixO ws (.int 3) h' = some (.str (num b)) := fun h' => by rw [← ew]; cases w <;> rfl
    have i4 : ∀ h', ixO ws (.int 4) h' = some (.str "back") := fun h' => by rw [← ew]; cases w <;> rfl
    have il : ∀ h', ixO ws (.int (-1)) h' = some (.str (ord t)) := fun h' => by rw [← ew]; cases w <;> rfl
    have sl : slO ws (some 5) (some (-1)) h = some (.lst (w.ws.map D.str)) := by rw [← ew]; cases w <;> rfl
    have or1 : cop .NotIn (.str (ord t)) (.tup [.str "kept", .str "turned"]) h = some false := by cases t <;> kernel_rfl
    have or2 : eqS (.str (ord t)) (.str "turned") h = some t := by cases t <;> kernel_rfl
    have wn : eqS w.d (.tup []) h = some false := by
      cases w with
      | top => kernel_rfl
      | bot => kernel_rfl
      | un k => exact (eqS_pl (n := 1) (by decide) rfl rfl).trans rfl
    refine st fun K hk => ?_
    simp only [is_if, tCm_is, dVar_z, dVar_s, dTup_is, dLst_is, aCons_is, aNil_is, dC_is]
    refine ⟨by decide +kernel, by decide +kernel, by decide +kernel, _, a1, ?_⟩
    rw [if_neg (by decide), is_pass]
    refine hk _ _ (st fun K hk => ?_)
    simp only [is_if, tAn_is, tCm_is, dVar_z, dVar_s, dB1_is, dIx_is, dC_is, l1, i0, Option.some.injEq, exists_eq_left', cop_eq, eq_ii, eq_ss]
    have tc : (("take" : Str) == "cut") = false := by decide +kernel
    simp only [tc, Bool.false_eq_true, if_false, is_pass]
    have n2 : ¬ ((n : Int) = 2) := by omega
    rw [decide_eq_false n2, if_neg (by decide)]
    refine hk _ _ (st fun K hk => ?_)
    refine no_is ?_
    have n7 : ¬ ((n : Int) < 7) := by omega
    have s1 : (("take" : Str) == "take") = true := by decide +kernel
    have s2 : (("to" : Str) == "to") = true := by decide +kernel
    have s3 : (("back" : Str) == "back") = true := by decide +kernel
    simp only [tOr_is, tCm_is, dVar_z, dVar_s, dB1_is, dIx_is, dC_is, neg_is, neg_i, l1, i0, i2, i4, il, or1, Option.some.injEq, exists_eq_left', cop_ne, lt_ii, eq_ss, Option.map_some, s1, s2, s3, Bool.not_true, Bool.false_eq_true, if_false, decide_eq_false n7]
    refine ⟨trivial, hk _ _ (st fun K hk => ?_)⟩
    simp only [is_par, aCons_is, aNil_is, dCall_is, dIx_is, dVar_z, dVar_s, dC_is, i1, i3, Option.some.injEq, exists_eq_left']
    refine ⟨rfl, bounded_is (by omega) (by omega) (by omega) ⟨rfl, bounded_is (by omega) (by omega) (by omega) ⟨rfl, hk _ _ (st fun K hk => ?_)⟩⟩⟩
    simp only [setsE, List.set_cons_succ, List.set_cons_zero]
    simp only [is_asg, dCall_is, aCons_is, aNil_is, dSl_is, oC_is, so_is, neg_is, neg_i, asI, dVar_z, dVar_s, dC_is, sl, Option.some.injEq, exists_eq_left']
    refine ⟨rfl, where_is o3 ?_⟩
    rw [gNm_is]
    refine ⟨Nat.le_of_ble_eq_true rfl, hk _ _ (st fun K hk => ?_)⟩
    refine no_is ?_
    have na : cop .Is (.int a) .non h = some false := rfl
    have nb : cop .Is (.int b) .non h = some false := rfl
    have nl : ¬ ((b : Int) < a) := by omega
    simp only [tOr_is, tCm_is, dVar_z, dVar_s, dTup_is, aNil_is, dC_is, na, nb, gt_ii, cop_eq, wn, Option.some.injEq, exists_eq_left', List.set_cons_succ, List.set_cons_zero, Bool.false_eq_true, if_false, decide_eq_false nl]
    refine ⟨by decide +kernel, trivial, hk _ _ ?_⟩
    simp only [is_seq, is_ret, dTup_is, aCons_is, aNil_is, dC_is, dVar_z, dVar_s, dOf_is, tCm_is, dIx_is, neg_is, neg_i, il, cop_eq, or2, Option.some.injEq, exists_eq_left']
    exact ⟨(by decide +kernel : (5 : Nat) ≤ sizeLine), fin rfl (by cases w <;> rfl)⟩
theorem head_is {m l : Nat} (m2 : 2 ≤ m) (hm : m ≤ 10) (hl : l ≤ 2) (hQ : Q (.tup [.int m, .int l]) h) : (r_head_in [.str (hd m l)] h).is Q := by
  have sp : splitD (.str (hd m l)) (.str " ") = some (.lst [.str "plates", .str (num m), .str "away", .str (num l)]) := by
    show (if ((" " : Str).length == 0) = false then if (hd m l).length + 2 ≤ sizeLine then some (D.lst ((Txt.split (hd m l) " ").map D.str)) else none else none) = _
    rw [if_pos (by decide +kernel), if_pos (by have := hd_len hm hl; rw [show sizeLine = 16777216 from rfl]; omega), hd_split hm hl]; rfl
  have is : fIsi .str (.str (hd m l)) h = some (.bl true) := rfl
  refine run_is rfl (Nat.le_of_ble_eq_true rfl) ?_
  refine st fun K hk => ?_
  show (sAsg _ _ [some (.str (hd m l)), none, none, none] h).is _ _
  simp only [is_asg, dIf_is, tTru_is, dB1_is, dVar_z, dVar_s, is, Option.some.injEq, exists_eq_left', tru_b, if_true, tm_is, dC_is, sp, asS, gNm_is]
  refine ⟨Nat.le_of_ble_eq_true rfl, hk _ _ ?_⟩
  clear hk sp is
  generalize hd m l = s
  show (sSeq _ _ [some (.str s), some (.lst [.str "plates", .str (num m), .str "away", .str (num l)]), none, none] h).is _ _
  refine st fun K hk => nx_is (e' := [some (.str s), some (.lst [.str "plates", .str (num m), .str "away", .str (num l)]), none, none]) (h' := h) (by kernel_rfl) (hk _ _ (st fun K hk => ?_))
  have i1 : ∀ h', ixO (.lst [.str "plates", .str (num m), .str "away", .str (num l)]) (.int 1) h' = some (.str (num m)) := fun h' => rfl
  have i3 : ∀ h', ixO (.lst [.str "plates", .str (num m), .str "away", .str (num l)]) (.int 3) h' = some (.str (num l)) := fun h' => rfl
  simp only [is_par, aCons_is, aNil_is, dCall_is, dIx_is, dVar_z, dVar_s, dC_is, i1, i3, Option.some.injEq, exists_eq_left']
  refine ⟨rfl, bounded_is hm (by omega) (by omega) ⟨rfl, bounded_is (by omega) (by omega) (by omega) ⟨rfl, hk _ _ ?_⟩⟩⟩
  have na : cop .Is (.int m) .non h = some false := rfl
  have nb : cop .Is (.int l) .non h = some false := rfl
  simp only [setsE, List.set_cons_succ, List.set_cons_zero, is_seq, is_ret, dIf_is, tOr_is, tCm_is, dVar_z, dVar_s, dC_is, na, nb, Option.some.injEq, exists_eq_left', Bool.false_eq_true, if_false, dTup_is, aCons_is, aNil_is]
  refine ⟨(by decide +kernel : (2 : Nat) ≤ sizeLine), _, rfl, ?_⟩
  rw [List.take_length]; exact hQ
theorem pairs_ge : ∀ {xs : List D} {i : Nat} {d : D}, d ∈ pairsL i xs → ∃ (j : Nat) (x : D), i ≤ j ∧ x ∈ xs ∧ d = .tup [.int j, x]
  | [], _, _, m => by cases m
  | x :: xs, i, d, m => by
    rcases List.mem_cons.mp m with e | m
    · exact ⟨i, x, Nat.le_refl _, List.mem_cons_self .., e⟩
    · obtain ⟨j, y, hj, hy, e⟩ := pairs_ge m
      exact ⟨j, y, by omega, List.mem_cons_of_mem _ hy, e⟩
theorem wrong_is {r : Ru} (o : r.ok) {c : D} (hc : c = .lst r.rd ∨ c = .tup r.rd) (hQ : Q (.tup []) h) : (r_wrong_rows [c] h).is Q := by
  have n1 := o.n1
  have n6 := o.n6
  have len : ∀ h', fLen c h' = some (.int (r.pl.length + 1 : Nat)) := fun h' => by
    rw [← Ru.len]
    rcases hc with rfl | rfl <;> rfl
  have i0 : ∀ h', ixO c (.int 0) h' = some (.str (hd r.m r.l)) := fun h' => by
    have : atI r.rd ((0 : Nat) : Int) = some (.str (hd r.m r.l)) := atI_nat (by rw [Ru.len]; omega)
    rcases hc with rfl | rfl <;> exact this
  have sc : srcE c = some ⟨pairsL 0 r.rd, none⟩ := by
    rcases hc with rfl | rfl <;> rfl
  refine run_is rfl (Nat.le_of_ble_eq_true rfl) ?_
  refine st fun K hk => ?_
  show (sIf _ _ _ [some c, none, none] h).is _ _
  refine no_is ?_
  simp only [tNt_is, tChn_is, dC_is, dB1_is, dVar_z, dVar_s, len, Option.some.injEq, exists_eq_left', le_ii, dBin_is, add_ii]
  rw [decide_eq_true (show (2 : Int) ≤ (r.pl.length + 1 : Nat) by omega), if_pos rfl, decide_eq_true (show ((r.pl.length + 1 : Nat) : Int) ≤ 6 + 1 by omega)]
  refine ⟨rfl, hk _ _ (st fun K hk => no_is ?_)⟩
  simp only [tCm_is, dCall_is, aCons_is, aNil_is, dIx_is, dVar_z, dVar_s, dC_is, i0, Option.some.injEq, exists_eq_left']
  refine ⟨rfl, head_is o.m2 o.m10 o.l2 ⟨false, rfl, rfl, hk _ _ (st fun K hk => ?_)⟩⟩
  refine for_is (enu_is ?_)
  rw [dVar_z]
  refine ⟨_, sc, rfl, ?_⟩
  refine (forI_is (fun e1 h1 => h1 = h ∧ ∃ (u v : Option D), e1 = [some c, u, v]) ?_ ⟨rfl, _, _, rfl⟩).mono ?_ fun d h z => z
  · rintro d hd _ _ ⟨rfl, u, v, rfl⟩
    obtain ⟨j, x, rfl, hx⟩ : ∃ (j : Nat) (x : D), d = .tup [.int j, x] ∧ (0 < j → ∃ y ∈ r.pl, x = .str y.s) := by
      rcases List.mem_cons.mp hd with e | hd
      · exact ⟨0, _, e, fun z => by omega⟩
      · obtain ⟨j, x, hj, hx, e⟩ := pairs_ge hd
        refine ⟨j, x, e, fun _ => ?_⟩
        have hx : x ∈ (r.pl.map Dy.s).map D.str := hx
        rw [List.map_map] at hx
        obtain ⟨y, hy, e⟩ := List.mem_map.mp hx
        exact ⟨y, hy, e.symm⟩
    rw [gTp_is (k := 2) (xs := [.int j, x]) rfl]
    simp only [gCons_is, gNm_is, gNil_is, List.set_cons_succ, List.set_cons_zero, List.length_cons, List.length_nil, Nat.reduceAdd, Nat.reduceLT, true_and]
    rw [is_seq]
    refine no_is ?_
    simp only [tAn_is, tCm_is, dVar_z, dVar_s, dC_is, gt_ii, Option.some.injEq, exists_eq_left', dCall_is, aCons_is, aNil_is, is_pass]
    by_cases j0 : (0 : Int) < j
    · rw [decide_eq_true j0, if_pos rfl]
      obtain ⟨y, hy, rfl⟩ := hx (by omega)
      refine ⟨rfl, day_is (o.ok y hy) ⟨false, ?_, rfl, rfl, _, _, rfl⟩⟩
      cases y <;> rfl
    · rw [decide_eq_false j0, if_neg (by decide)]
      exact ⟨trivial, trivial, _, _, rfl⟩
  · rintro _ _ ⟨rfl, u, v, rfl⟩
    refine hk _ _ ?_
    simp only [is_seq, is_ret, dTup_is, aNil_is]
    refine ⟨by decide +kernel, _, rfl, ?_⟩
    rw [List.take_length]; exact hQ
theorem set_fld {m : Nat} {c f : Str} {fl ks : List Str} {vs : List D} {d : D} (q : h[m]? = some (.live (.ins c ks vs))) (hf : fl.contains c = true) (hk : ks.length < 1000) (u : d.und m = true) : setF fl (.ref m) f d h = some (h.set m (.live (.ins c (putK ks f) (putV ks vs f d)))) := by
  unfold setF
  simp only [q]
  rw [if_pos hf, if_pos hk, if_pos u]
theorem init_is {r : Ru} (o : r.ok) {m : Nat} (q : h[m]? = some (.live (.ins "Rule" [] []))) (hQ : Q .non (h.set m (.live (.ins "Rule" ruK r.vs)))) : (r_Rule___init__ [.ref m, .tup r.rd] h).is Q := by
  have n1 := o.n1
  have n6 := o.n6
  have hm : m < h.length := (List.getElem?_eq_some_iff.mp q).1
  have cR : (["Rule"] : List Str).contains "Rule" = true := by decide +kernel
  refine run_is rfl (Nat.le_of_ble_eq_true rfl) ?_
  refine st fun K hk => ?_
  show (sAsg _ _ [some (.ref m), some (.tup r.rd), none, none] h).is _ _
  simp only [dC_is, dVar_z, dVar_s, aNil_is, aCons_is, dTup_is, dLst_is, dBin_is, dB1_is, dB2_is, dIx_is, dCall_is, dCallK_is, tCm_is, tChn_is, dOf_is, tTru_is, tNt_is, tAn_is, tOr_is, dIf_is, dNt_is, add_ii, sub_ii, mul_ii, div_ii, mod_ii, pow_ii, lt_ii, le_ii, gt_ii, ge_ii, cop_eq, cop_ne, tru_b, int_i, int_b, abs_i, max_ii, min_ii, eq_ii, eq_ss, eq_ll, eq_tt, is_asg, is_if, is_par, is_ret, is_expr, gNm_is, is_pass, is_seq, setsE, permL, List.set_cons_succ, List.set_cons_zero, List.length_cons, List.length_nil, true_and, and_true, Option.some.injEq, exists_eq_left', exists_eq_left, Nat.zero_add, Nat.reduceAdd, Nat.reduceLT, List.set_set, Option.map_some, ite_true, ite_false, Bool.false_eq_true, if_true, if_false]
  refine wrong_is o (.inr rfl) (hk _ _ (st fun K hk => no_is ?_))
  simp only [tTru_is, dVar_z, dVar_s]
  refine ⟨false, rfl, rfl, hk _ _ (st fun K hk => ?_)⟩
  simp only [is_asg, dVar_z, dVar_s, gAt_is]
  refine ⟨_, set_fld q cR (by decide) (und_strs _ _), hk _ _ (st fun K hk => ?_)⟩
  have i0 : ∀ h', ixO (.tup r.rd) (.int 0) h' = some (.str (hd r.m r.l)) := fun h' => by
    have : atI r.rd ((0 : Nat) : Int) = some (.str (hd r.m r.l)) := atI_nat (by rw [Ru.len]; omega)
    exact this
  simp only [is_asg, dCall_is, aCons_is, aNil_is, dIx_is, dVar_z, dVar_s, dC_is, i0, Option.some.injEq, exists_eq_left']
  refine ⟨rfl, head_is o.m2 o.m10 o.l2 ?_⟩
  rw [gTp_is (k := 2) rfl]
  simp only [gCons_is, gNil_is, gAt_is, dVar_z, dVar_s]
  refine ⟨_, set_fld (set_at q) cR (by decide) rfl, ?_⟩
  rw [List.set_set]
  refine ⟨_, set_fld (set_at q) cR (by decide +kernel) rfl, ?_⟩
  rw [List.set_set]
  refine hk _ _ ?_
  rw [is_seq, is_asg]
  have sl : ∀ h', slO (.tup r.rd) (some 1) none h' = some (.tup ((r.pl.map Dy.s).map D.str)) := fun h' => by
    show some (D.tup (cutD (_ :: _) _ _)) = _
    unfold cutD HT.sIx
    simp [Ru.rows]
    exact List.take_of_length_le (by simp)
  refine comp_is (val_is ?_)
  simp only [dSl_is, oC_is, oNo_is, dVar_z, dVar_s, sl, Option.some.injEq, exists_eq_left']
  refine ⟨_, rfl, rfl, ?_, ?_⟩
  · show List.length _ ≤ 16777216
    simp only [List.length_map]; omega
  rw [List.map_map]
  refine (compF_is (D.str ∘ Dy.s) Dy.d (fun d hd => ⟨_, rfl, ?_⟩)).mono fun ys h' ⟨eh, ey⟩ => ?_
  · show (dCall _ _ _ [_, _, _, some (.str d.s)] _).is _
    simp only [dC_is, dVar_z, dVar_s, aNil_is, aCons_is, dTup_is, dLst_is, dBin_is, dB1_is, dB2_is, dIx_is, dCall_is, dCallK_is, tCm_is, tChn_is, dOf_is, tTru_is, tNt_is, tAn_is, tOr_is, dIf_is, dNt_is, add_ii, sub_ii, mul_ii, div_ii, mod_ii, pow_ii, lt_ii, le_ii, gt_ii, ge_ii, cop_eq, cop_ne, tru_b, int_i, int_b, abs_i, max_ii, min_ii, eq_ii, eq_ss, eq_ll, eq_tt, is_asg, is_if, is_par, is_ret, is_expr, gNm_is, is_pass, is_seq, setsE, permL, List.set_cons_succ, List.set_cons_zero, List.length_cons, List.length_nil, true_and, and_true, Option.some.injEq, exists_eq_left', exists_eq_left, Nat.zero_add, Nat.reduceAdd, Nat.reduceLT, List.set_set, Option.map_some, ite_true, ite_false, Bool.false_eq_true, if_true, if_false]
    exact day_is (o.ok d hd) ⟨rfl, rfl⟩
  subst eh ey
  simp only [gAt_is, dVar_z, dVar_s]
  refine ⟨_, set_fld (set_at q) cR (by decide +kernel) (und_days _ _), ?_⟩
  rw [List.set_set, is_pass]
  rw [take_set]
  exact hQ
theorem frz5 {b : Nat} {d : D} (u : d.und b = true) : frz b h 5 d = some d := by
  refine walk_le (fun m hm => ?_) d u
  exact if_pos hm
theorem mapO_same {f : D → Option D} : ∀ {xs : List D}, (∀ x ∈ xs, f x = some x) → mapO f xs = some xs
  | [], _ => rfl
  | x :: xs, m => by
    have ih := mapO_same (xs := xs) fun y hy => m y (List.mem_cons_of_mem _ hy)
    unfold mapO
    rw [m x (List.mem_cons_self ..), ih]
theorem read_is {r : Ru} (o : r.ok) (hQ : Q r.d h) : (r_Rule_read [.cls "Rule", .str (Txt.join "\n" r.rows)] h).is Q := by
  have n1 := o.n1
  have n6 := o.n6
  have sp : splitD (.str (Txt.join "\n" r.rows)) (.str "\n") = some (.lst r.rd) := by
    show (if (("\n" : Str).length == 0) = false then if (Txt.join "\n" r.rows).length + 2 ≤ sizeLine then some (D.lst ((Txt.split (Txt.join "\n" r.rows) "\n").map D.str)) else none else none) = _
    rw [if_pos (by decide +kernel), if_pos (by have := Ru.tlen o; rw [show sizeLine = 16777216 from rfl]; omega), Ru.split o]; rfl
  have is : fIsi .str (.str (Txt.join "\n" r.rows)) h = some (.bl true) := rfl
  refine run_is rfl (Nat.le_of_ble_eq_true rfl) ?_
  refine st fun K hk => ?_
  show (sAsg _ _ [some (.cls "Rule"), some (.str (Txt.join "\n" r.rows)), none] h).is _ _
  simp only [is_asg, dIf_is, tTru_is, dB1_is, dVar_z, dVar_s, is, Option.some.injEq, exists_eq_left', tru_b, if_true, tm_is, dC_is, sp, asS, gNm_is]
  refine ⟨Nat.le_of_ble_eq_true rfl, hk _ _ (st fun K hk => no_is ?_)⟩
  simp only [tTru_is, dCall_is, aCons_is, aNil_is, dVar_z, dVar_s, List.set_cons_succ, List.set_cons_zero]
  refine ⟨rfl, wrong_is o (.inl rfl) ⟨false, rfl, rfl, hk _ _ ?_⟩⟩
  rw [is_seq, is_ret]
  refine mk_is ?_
  show ((dVar 2 [_, _, some (.lst r.rd)] h).bind fun d h => Res.of (starD h d) h).is _
  rw [is_bind]
  simp only [dVar_z, dVar_s, is_of]
  refine ⟨r.rd, rfl, ?_⟩
  show (arV 1 r_Rule___init__ (.ref h.length :: r.rd) _).is _
  unfold arV
  rw [if_pos (by simp), if_pos (by rw [List.length_cons, Ru.len, show sizeLine = 16777216 from rfl]; omega)]
  show (r_Rule___init__ [.ref h.length, .tup r.rd] _).is _
  have gt : (h ++ [Cl.live (.ins "Rule" [] [])])[h.length]? = some (.live (.ins "Rule" [] [])) := by simp
  refine init_is o gt ⟨rfl, ?_⟩
  have es : (h ++ [Cl.live (.ins "Rule" [] [])]).set h.length (.live (.ins "Rule" ruK r.vs)) = h ++ [.live (.ins "Rule" ruK r.vs)] := by
    rw [List.set_append_right _ _ (Nat.le_refl _), Nat.sub_self]; rfl
  rw [es]
  refine ⟨r.d, ?_, ?_⟩
  · show (if h.length < h.length then some (D.ref h.length) else match cellAt (h ++ [Cl.live (.ins "Rule" ruK r.vs)]) h.length with
      | none => none
      | some (.lst xs) => (mapO (frz h.length (h ++ [Cl.live (.ins "Rule" ruK r.vs)]) 5) xs).map .lst
      | some (.ins c ks xs) => (mapO (frz h.length (h ++ [Cl.live (.ins "Rule" ruK r.vs)]) 5) xs).map (.ins c ks) | some (.dct ks xs) => (mapO (frz h.length (h ++ [Cl.live (.ins "Rule" ruK r.vs)]) 5) xs).map (.dct ks) | some (.tbl _ _) => none) = _
    rw [if_neg (Nat.lt_irrefl _)]
    have ce : cellAt (h ++ [Cl.live (.ins "Rule" ruK r.vs)]) h.length = some (.ins "Rule" ruK r.vs) := by
      unfold cellAt
      simp
    rw [ce]
    have mo : mapO (frz h.length (h ++ [Cl.live (.ins "Rule" ruK r.vs)]) 5) r.vs = some r.vs := by
      refine mapO_same fun v hv => ?_
      have hv : v = .tup r.rd ∨ v = .int r.m ∨ v = .int r.l ∨ v = .lst (r.pl.map Dy.d) := by simpa [Ru.vs] using hv
      rcases hv with rfl | rfl | rfl | rfl
      · exact frz5 (und_strs _ _)
      · exact frz5 rfl
      · exact frz5 rfl
      · exact frz5 (und_days _ _)
    dsimp only
    rw [mo]; rfl
  · rw [List.take_left]; exact hQ
theorem strL_map : ∀ xs : List Str, strL (xs.map D.str) = some xs
  | [] => rfl
  | x :: xs => by
    have ih : mapO asS (xs.map D.str) = some xs := strL_map xs
    unfold strL
    rw [List.map_cons]
    unfold mapO
    rw [ih]; rfl
theorem lens_le {c : Nat} : ∀ {xs : List Str}, (∀ x ∈ xs, x.length ≤ c) → (xs.map (·.length)).sum ≤ xs.length * c
  | [], _ => Nat.zero_le _
  | x :: xs, m => by
    have ih := lens_le (xs := xs) fun y hy => m y (List.mem_cons_of_mem _ hy)
    have := m x (List.mem_cons_self ..)
    rw [List.map_cons, List.sum_cons, List.length_cons, Nat.add_mul]
    omega
theorem made_is {r : Ru} (o : r.ok) (hQ : Q r.d h) : (r__law_made [.lst r.rd] h).is Q := by
  have n6 := o.n6
  have jo : ∀ h', joinD h' (.str "\n") (.lst r.rd) = some (.str (Txt.join "\n" r.rows)) := fun h' => by
    show (match strL r.rd with | none => none | some ys => if (ys.map fun x : Str => x.length).sum + ys.length * ("\n" : Str).length ≤ 16777216 then some (D.str (Txt.join "\n" ys)) else none) = _
    rw [show strL r.rd = some r.rows from strL_map _]
    dsimp only
    rw [if_pos]
    have z := lens_le (c := 60) (xs := r.rows) fun p hp => (Ru.row o p hp).1
    have e : r.rows.length = r.pl.length + 1 := by unfold Ru.rows; simp
    rw [show ("\n" : Str).length = 1 from by decide +kernel]
    rw [e] at z ⊢
    omega
  refine run_is rfl (Nat.le_of_ble_eq_true rfl) ?_
  show (sSeq _ _ [some (.lst r.rd)] h).is _ _
  rw [is_seq, is_ret, cm_is]
  simp only [aCons_is, aNil_is, tm_is, dC_is, asS, Option.some.injEq, exists_eq_left', dVar_z, jo]
  refine ar_is rfl (read_is o ⟨_, frz_low (Ru.und _ _), ?_⟩)
  rw [List.take_length]; exact hQ
theorem cell_at {m : Nat} {xs : List D} (q : h[m]? = some (.live (.lst xs))) : cellAt h m = some (.lst xs) := by
  unfold cellAt
  simp only [q]
theorem frz_ref {b m : Nat} {xs : List D} (hb : b ≤ m) (q : h[m]? = some (.live (.lst xs))) (u : ∀ x ∈ xs, x.und b = true) : frz b h 6 (.ref m) = some (.lst xs) := by
  show (if m < b then some (D.ref m) else match cellAt h m with
    | none => none
    | some (.lst xs) => (mapO (frz b h 5) xs).map .lst
    | some (.ins c ks xs) => (mapO (frz b h 5) xs).map (.ins c ks) | some (.dct ks xs) => (mapO (frz b h 5) xs).map (.dct ks) | some (.tbl _ _) => none) = _
  rw [if_neg (by omega), cell_at q]
  dsimp only
  rw [mapO_same fun x hx => frz5 (u x hx)]; rfl
theorem live_at {m : Nat} {xs : List D} (q : h[m]? = some (.live (.lst xs))) : liveAt h (.ref m) = some (m, xs) := by
  unfold liveAt
  simp only [q]
theorem app_at {m : Nat} {xs : List D} {d : D} (q : h[m]? = some (.live (.lst xs))) (u : d.und m = true) (l : xs.length ≤ 10000000) : appO (.ref m) d h = some (h.set m (.live (.lst (xs ++ [d])))) := by
  unfold appO
  rw [live_at q]
  show (if D.und m d = true then if xs.length < sizeLine then some _ else none else appF m xs d h) = _
  rw [if_pos u, if_pos (by rw [show sizeLine = 16777216 from rfl]; omega)]
theorem last_lst {xs : List D} {d : D} : ixO (.lst (xs ++ [d])) (.int (-1)) h = some d := by
  show atI (xs ++ [d]) (-1) = some d
  unfold atI ixN
  simp
  rw [if_pos (by omega)]
  show (xs ++ [d])[(-1 + ((xs.length : Int) + 1)).toNat]? = some d
  rw [show (-1 + ((xs.length : Int) + 1)).toNat = xs.length by omega]
  simp
theorem draw_is {s : Int} (hx : Spr x) (e : h[n]? = some x) (h0 : 0 < s) (h1 : s < 1073741824) (hQ : ∀ v y, Spr y → 0 ≤ v → v < s → Q (.int v) (h.set n y)) : (r__law_draw [.ref n, .int s] h).is Q := by
  obtain ⟨a, b, c, rfl⟩ := hx
  have hn : n < h.length := (List.getElem?_eq_some_iff.mp e).1
  refine run_is rfl (Nat.le_of_ble_eq_true rfl) ?_
  have z : h[n] = .live (.lst [.int a, .int b, .int c]) := (List.getElem?_eq_some_iff.mp e).2
  simp [d__law_draw, T__law_draw, ixO, lstAt, setO, setL, dlvAt, liveAt, hn, z, atI, ixN, D.und, h0, h1, take_set]
  refine ⟨mulOk_r (by decide +kernel), mulOk_l (by decide +kernel), ?_⟩
  by_cases p : 0 < a
  · exact .inr ⟨p, hQ _ _ ⟨_, _, _, rfl⟩ (Int.emod_nonneg _ (by omega)) (Int.emod_lt_of_pos _ h0)⟩
  · exact .inl ⟨by omega, mulOk_r (by omega), by decide +kernel, hQ _ _ ⟨_, _, _, rfl⟩ (Int.emod_nonneg _ (by omega)) (Int.emod_lt_of_pos _ h0)⟩
theorem of_is {xs : List D} (hx : Spr x) (e : h[n]? = some x) (h0 : 0 < xs.length) (h1 : xs.length < 1073741824) (hp : ∀ d ∈ xs, ∀ b h, frz b h 6 d = some d) (hQ : ∀ d y, Spr y → d ∈ xs → Q d (h.set n y)) : (r__law_of [.ref n, .lst xs] h).is Q := by
  refine run_is rfl (Nat.le_of_ble_eq_true rfl) ?_
  simp [d__law_of, T__law_of, fLen, asL]
  refine draw_is hx e (by omega) (by omega) fun v y sy v0 v1 => ?_
  obtain ⟨m, rfl⟩ := Int.eq_ofNat_of_zero_le v0
  have hm : m < xs.length := by omega
  refine ⟨xs[m], atI_nat hm, xs[m], hp _ (List.getElem_mem hm) _ _, ?_⟩
  rw [take_set]
  exact hQ _ _ sy (List.getElem_mem hm)
theorem ofi_is {xs : List D} (hx : Spr x) (e : h[n]? = some x) (h0 : 0 < xs.length) (h1 : xs.length < 1073741824) (hp : ∀ d ∈ xs, ∃ i : Int, d = .int i) (hQ : ∀ i y, Spr y → D.int i ∈ xs → Q (.int i) (h.set n y)) : (r__law_of [.ref n, .lst xs] h).is Q := by
  refine of_is hx e h0 h1 (fun d m b h => ?_) fun d y sy m => ?_
  · obtain ⟨i, rfl⟩ := hp d m; rfl
  · obtain ⟨i, rfl⟩ := hp d m; exact hQ i y sy m
theorem str_num {k : Nat} (hk : k ≤ 100) : fStr (.int k) h = some (.str (num k)) := by
  show (if ((k : Int)).natAbs.log2 < 1920 then some (D.str (num k)) else none) = _
  rw [if_pos]
  rw [Int.natAbs_natCast]
  by_cases z : k = 0
  · subst z; decide
  · have := (Nat.log2_lt (n := k) (k := 7) z).mpr (by omega)
    omega
theorem add_str {a b : Str} (l : a.length + b.length ≤ 1000) (q : Q (.str (a ++ b)) h) : (bop .Add (.str a) (.str b) h).is Q := by
  rw [add_ss]
  exact ⟨sizeL l, q⟩
theorem ofs_is {xs : List Str} (hx : Spr x) (e : h[n]? = some x) (h0 : 0 < xs.length) (h1 : xs.length < 1000) (hQ : ∀ s y, Spr y → s ∈ xs → Q (.str s) (h.set n y)) : (r__law_of [.ref n, .lst (xs.map D.str)] h).is Q := by
  refine of_is hx e (by rw [List.length_map]; exact h0) (by rw [List.length_map]; omega) (fun d m b h => ?_) fun d y sy m => ?_
  · obtain ⟨s, _, rfl⟩ := List.mem_map.mp m; rfl
  · obtain ⟨s, hs, rfl⟩ := List.mem_map.mp m; exact hQ s y sy hs
theorem rep4 {d : D} (q : Q (.lst [d, d, d, d]) h) : (bop .Mult (.lst [d]) (.int 4) h).is Q := by
  show (if repOk 1 4 = true then Res.ok (.lst [d, d, d, d]) h else .bad).is Q
  rw [if_pos (by decide +kernel)]; exact q
theorem rep2 {d : D} (q : Q (.lst [d, d]) h) : (bop .Mult (.lst [d]) (.int 2) h).is Q := by
  show (if repOk 1 2 = true then Res.ok (.lst [d, d]) h else .bad).is Q
  rw [if_pos (by decide +kernel)]; exact q
def Ru.sml (r : Ru) : Prop := ∀ d ∈ r.pl, ∀ n, (d.sp n).length ≤ 3

end
-- SPLIT
section
variable {n : Nat} {h : Hs} {x : Cl} {Q : D → Hs → Prop}
theorem take_ok {a b : Nat} {w : Wh} {t : Bool} (h1 : a ≤ b) (h2 : b ≤ 4) (h3 : w.ok) : (Dy.take a b w t).ok := ⟨h1, by omega, h3⟩
theorem ltake_is {m : Nat} (hx : Spr x) (e : h[n]? = some x) (hQ : ∀ a b w t y, Spr y → a ≤ b → b ≤ a + 2 → b ≤ 4 → Wh.ok w → Q (.str (Dy.s (.take a b w t))) (h.set n y)) : (r__law_take [.ref n, .int m] h).is Q := by
  obtain ⟨l1, l2, l3, l4, l5, l6, l7, l8, l9, l10, l11, l12⟩ := lens
  refine run_is rfl (Nat.le_of_ble_eq_true rfl) ?_
  refine st fun K hk => ?_
  show (sAsg _ _ [some (.ref n), some (.int m), none, none, none] h).is _ _
  have key : ∀ (a : Nat) (y : Cl), a ≤ 2 → Spr y → K [some (.ref n), some (.int m), some (.int a), none, none] (h.set n y) := by
    intro a y a2 sy
    refine hk _ _ (st fun K hk => ?_)
    rw [is_asg, dBin_is]
    simp only [dVar_z, dVar_s]
    rw [dCall_is, aCons_is, dVar_z, aCons_is, dC_is, aNil_is]
    refine ⟨rfl, draw_is sy (set_at e) (by omega) (by omega) fun b y sy b0 b1 => ?_⟩
    obtain ⟨b, rfl⟩ := Int.eq_ofNat_of_zero_le b0
    rw [List.set_set, add_ii, show (a : Int) + (b : Int) = ((a + b : Nat) : Int) by omega, gNm_is]
    refine ⟨Nat.le_of_ble_eq_true rfl, hk _ _ (st fun K hk => ?_)⟩
    simp only [List.set_cons_succ, List.set_cons_zero]
    rw [is_asg, dCall_is, aCons_is, dVar_z, aCons_is, dLst_is, aCons_is, dC_is, aCons_is, dC_is, aCons_is, dC_is, aCons_is, dC_is, aCons_is, dC_is, aCons_is, dBin_is, dC_is, dB1_is, dBin_is, dC_is, dCall_is, aCons_is, dVar_z, aCons_is, dC_is, aNil_is]
    refine ⟨rfl, draw_is sy (set_at e) (by omega) (by omega) fun j y sy j0 j1 => ?_⟩
    obtain ⟨j, rfl⟩ := Int.eq_ofNat_of_zero_le j0
    rw [List.set_set, add_ii, show (1 : Int) + (j : Int) = ((1 + j : Nat) : Int) by omega]
    have hj := num_len (k := 1 + j) (by omega)
    refine ⟨_, str_num (by omega), add_str (by omega) ?_⟩
    rw [aNil_is]
    refine ⟨(by decide +kernel : (6 : Nat) ≤ sizeLine), ?_⟩
    rw [aNil_is]
    refine ⟨rfl, ofs_is (xs := ["top", "bottom", "bottom", "under 1", "under 2", ("under " : Str) ++ num (1 + j)]) sy (set_at e) (Nat.le_of_ble_eq_true rfl) (Nat.le_of_ble_eq_true rfl) fun ws y sy hs => ?_⟩
    obtain ⟨q, qo, rfl⟩ : ∃ q : Wh, q.ok ∧ ws = q.s := by
      simp only [List.mem_cons, List.not_mem_nil, or_false] at hs
      rcases hs with h | h | h | h | h | h
      · exact ⟨.top, trivial, h⟩
      · exact ⟨.bot, trivial, h⟩
      · exact ⟨.bot, trivial, h⟩
      · exact ⟨.un 1, ⟨by omega, by omega⟩, h.trans (by decide +kernel)⟩
      · exact ⟨.un 2, ⟨by omega, by omega⟩, h.trans (by decide +kernel)⟩
      · exact ⟨.un (1 + j), ⟨by omega, by omega⟩, h⟩
    have hq := Wh.len qo
    rw [List.set_set, gNm_is]
    refine ⟨Nat.le_of_ble_eq_true rfl, hk _ _ ?_⟩
    simp only [List.set_cons_succ, List.set_cons_zero]
    have ha := num_len (k := a) (by omega)
    have hb := num_len (k := a + b) (by omega)
    rw [is_seq, is_ret, dBin_is, dBin_is, dBin_is, dBin_is, dBin_is, dBin_is, dBin_is, dC_is, dB1_is]
    simp only [dVar_z, dVar_s]
    refine ⟨_, str_num (by omega), add_str (by omega) ?_⟩
    rw [dC_is]
    refine add_str (by rw [len_app]; omega) ?_
    rw [dB1_is]
    try simp only [dVar_z, dVar_s]
    refine ⟨_, str_num (by omega), add_str (by rw [len_app, len_app]; omega) ?_⟩
    rw [dC_is]
    refine add_str (by rw [len_app, len_app, len_app]; omega) ?_
    try simp only [dVar_z, dVar_s]
    refine add_str (by rw [len_app, len_app, len_app, len_app]; omega) ?_
    rw [dC_is]
    refine add_str (by rw [len_app, len_app, len_app, len_app, len_app]; omega) ?_
    rw [dCall_is, aCons_is, dVar_z, aCons_is, dLst_is, aCons_is, dC_is, aCons_is, dC_is, aNil_is]
    refine ⟨(by decide +kernel : (2 : Nat) ≤ sizeLine), ?_⟩
    rw [aNil_is]
    refine ⟨rfl, ofs_is (xs := [ord false, ord true]) sy (set_at e) (Nat.le_of_ble_eq_true rfl) (Nat.le_of_ble_eq_true rfl) fun os y sy hs => ?_⟩
    obtain ⟨tt, rfl⟩ : ∃ tt : Bool, os = ord tt := by
      simp only [List.mem_cons, List.not_mem_nil, or_false] at hs
      rcases hs with h | h
      · exact ⟨_, h⟩
      · exact ⟨_, h⟩
    have ho := (ord_signs tt).2.2
    rw [List.set_set]
    refine add_str (by rw [len_app, len_app, len_app, len_app, len_app, len_app]; show _ + (ord tt).cps.toList.length ≤ 1000; omega) ⟨_, rfl, ?_⟩
    rw [take_set]
    exact hQ a (a + b) q tt y sy (by omega) (by omega) (by omega) qo
  rw [is_asg, dIf_is]
  simp only [tCm_is, dVar_z, dVar_s, dC_is, gt_ii, Option.some.injEq, exists_eq_left']
  have small : ∀ {xs : List D} {i : Int} {Q : Prop}, (∀ d ∈ xs, ∃ a : Nat, d = .int a ∧ a ≤ 2) → D.int i ∈ xs → (∀ a : Nat, i = a → a ≤ 2 → Q) → Q := by
    intro xs i Q hh m k
    obtain ⟨a, ea, a2⟩ := hh _ m
    cases ea
    exact k a rfl a2
  split
  · rw [dCall_is, aCons_is, dVar_z, aCons_is, dLst_is, aCons_is, dC_is, aCons_is, dC_is, aCons_is, dC_is, aCons_is, dC_is, aCons_is, dC_is, aNil_is]
    refine ⟨(by decide +kernel : (5 : Nat) ≤ sizeLine), ?_⟩
    rw [aNil_is]
    have al : ∀ d ∈ [D.int 0, .int 1, .int 1, .int 1, .int 2], ∃ a : Nat, d = .int a ∧ a ≤ 2 := by
      intro d hd
      simp only [List.mem_cons, List.not_mem_nil, or_false] at hd
      rcases hd with rfl | rfl | rfl | rfl | rfl
      · exact ⟨0, rfl, by omega⟩
      · exact ⟨1, rfl, by omega⟩
      · exact ⟨1, rfl, by omega⟩
      · exact ⟨1, rfl, by omega⟩
      · exact ⟨2, rfl, by omega⟩
    refine ⟨rfl, ofi_is hx e (Nat.le_of_ble_eq_true rfl) (Nat.le_of_ble_eq_true rfl) (fun d hd => by obtain ⟨a, q, _⟩ := al d hd; exact ⟨_, q⟩) fun i y sy m => small al m fun a ea a2 => ?_⟩
    subst ea
    rw [gNm_is]
    exact ⟨Nat.le_of_ble_eq_true rfl, key a y a2 sy⟩
  · rw [dCall_is, aCons_is, dVar_z, aCons_is, dLst_is, aCons_is, dC_is, aCons_is, dC_is, aCons_is, dC_is, aNil_is]
    refine ⟨(by decide +kernel : (3 : Nat) ≤ sizeLine), ?_⟩
    rw [aNil_is]
    have al : ∀ d ∈ [D.int 0, .int 1, .int 1], ∃ a : Nat, d = .int a ∧ a ≤ 2 := by
      intro d hd
      simp only [List.mem_cons, List.not_mem_nil, or_false] at hd
      rcases hd with rfl | rfl | rfl
      · exact ⟨0, rfl, by omega⟩
      · exact ⟨1, rfl, by omega⟩
      · exact ⟨1, rfl, by omega⟩
    refine ⟨rfl, ofi_is hx e (Nat.le_of_ble_eq_true rfl) (Nat.le_of_ble_eq_true rfl) (fun d hd => by obtain ⟨a, q, _⟩ := al d hd; exact ⟨_, q⟩) fun i y sy m => small al m fun a ea a2 => ?_⟩
    subst ea
    rw [gNm_is]
    exact ⟨Nat.le_of_ble_eq_true rfl, key a y a2 sy⟩
theorem sml_take {a b : Nat} {w : Wh} {t : Bool} (hb : b ≤ a + 2) (n : Nat) : ((Dy.take a b w t).sp n).length ≤ 3 := by
  show ((List.range _).map _).length ≤ 3
  rw [List.length_map, List.length_range]; omega
theorem sml_else {d : Dy} (hd : ∀ a b w t, d ≠ .take a b w t) (n : Nat) : (d.sp n).length ≤ 3 := by
  cases d with
  | take a b w t => exact absurd rfl (hd a b w t)
  | _ => exact Nat.le_of_ble_eq_true rfl
theorem lrows_is (hx : Spr x) (e : h[n]? = some x) (hQ : ∀ r y, Spr y → Ru.ok r → Ru.sml r → r.m ≤ 4 → r.l ≤ 1 → r.pl.length ≤ 3 → Q (.lst r.rd) (h.set n y)) : (r__law_rows [.ref n] h).is Q := by
  have hn : n < h.length := (List.getElem?_eq_some_iff.mp e).1
  have hn2 : ∀ y : Cl, n < (h.set n y).length := fun y => by rw [List.length_set]; exact hn
  have at_ : ∀ (y c : Cl), (h.set n y ++ [c])[n]? = some y := fun y c => get_app (set_at e)
  have gl : ∀ (y c : Cl), (h.set n y ++ [c])[h.length]? = some c := fun y c => by
    rw [List.getElem?_append_right (by simp)]; simp
  have sl : ∀ (y c c' : Cl), (h.set n y ++ [c]).set h.length c' = h.set n y ++ [c'] := fun y c c' => by
    rw [List.set_append_right _ _ (by simp)]; simp
  obtain ⟨l1, l2, l3, l4, l5, l6, l7, l8, l9, l10, l11, l12⟩ := lens
  refine run_is rfl (Nat.le_of_ble_eq_true rfl) ?_
  refine st fun K hk => ?_
  show (sAsg _ _ [some (.ref n), none, none, none, none] h).is _ _
  rw [is_asg, dCall_is, aCons_is, dVar_z, aCons_is, dLst_is, aCons_is, dC_is, aCons_is, dC_is, aCons_is, dC_is, aCons_is, dC_is, aCons_is, dC_is, aNil_is]
  refine ⟨(by decide +kernel : (5 : Nat) ≤ sizeLine), ?_⟩
  rw [aNil_is]
  have al : ∀ d ∈ [D.int 2, .int 3, .int 3, .int 3, .int 4], ∃ a : Nat, d = .int a ∧ 2 ≤ a ∧ a ≤ 4 := by
    intro d hd
    simp only [List.mem_cons, List.not_mem_nil, or_false] at hd
    rcases hd with rfl | rfl | rfl | rfl | rfl
    · exact ⟨2, rfl, by omega, by omega⟩
    · exact ⟨3, rfl, by omega, by omega⟩
    · exact ⟨3, rfl, by omega, by omega⟩
    · exact ⟨3, rfl, by omega, by omega⟩
    · exact ⟨4, rfl, by omega, by omega⟩
  refine ⟨rfl, ofi_is hx e (Nat.le_of_ble_eq_true rfl) (Nat.le_of_ble_eq_true rfl) (fun d hd => by obtain ⟨a, q, _⟩ := al d hd; exact ⟨_, q⟩) fun i y sy m => ?_⟩
  obtain ⟨v, ev, v2, v4⟩ := al _ m
  obtain rfl : i = (v : Int) := by cases ev; rfl
  clear al m ev
  rw [gNm_is]
  refine ⟨Nat.le_of_ble_eq_true rfl, hk _ _ (st fun K hk => ?_)⟩
  simp only [List.set_cons_succ, List.set_cons_zero]
  have hv := num_len (k := v) (by omega)
  rw [is_asg, dNew_is, nLst_is, aCons_is, dBin_is, dBin_is, dBin_is, dC_is, dB1_is]
  simp only [dVar_z, dVar_s]
  refine ⟨_, str_num (by omega), add_str (by omega) ?_⟩
  rw [dC_is]
  refine add_str (by rw [len_app]; omega) ?_
  rw [dCall_is, aCons_is, dVar_z, aCons_is, dLst_is, aCons_is, dC_is, aCons_is, dC_is, aCons_is, dC_is, aCons_is, dC_is, aNil_is]
  refine ⟨(by decide +kernel : (4 : Nat) ≤ sizeLine), ?_⟩
  rw [aNil_is]
  refine ⟨rfl, ofs_is (xs := ["0", "0", "0", "1"]) sy (set_at e) (Nat.le_of_ble_eq_true rfl) (Nat.le_of_ble_eq_true rfl) fun ws y sy hs => ?_⟩
  obtain ⟨w, w1, rfl⟩ : ∃ w : Nat, w ≤ 1 ∧ ws = num w := by
    simp only [List.mem_cons, List.not_mem_nil, or_false] at hs
    rcases hs with h | h | h | h
    · exact ⟨0, by omega, h.trans (by decide +kernel)⟩
    · exact ⟨0, by omega, h.trans (by decide +kernel)⟩
    · exact ⟨0, by omega, h.trans (by decide +kernel)⟩
    · exact ⟨1, by omega, h.trans (by decide +kernel)⟩
  rw [List.set_set]
  have hw := num_len (k := w) (by omega)
  refine add_str (by rw [len_app, len_app]; omega) ?_
  rw [aCons_is, dCall_is, aCons_is, dVar_z, aCons_is]
  simp only [dVar_z, dVar_s]
  rw [aNil_is]
  refine ⟨rfl, ltake_is sy (set_at e) fun a b q t y sy ab ba b4 qo => ?_⟩
  rw [List.set_set, aNil_is]
  refine ⟨(by decide +kernel : (2 : Nat) ≤ sizeLine), rfl, ?_⟩
  rw [List.length_set, gNm_is]
  refine ⟨Nat.le_of_ble_eq_true rfl, hk _ _ (st fun K hk => ?_)⟩
  show (sFor _ _ _ [some (.ref n), some (.int v), some (.ref h.length), none, none] (h.set n y ++ [.live (.lst [.str (hd v w), .str (Dy.s (.take a b q t))])])).is _ _
  refine for_is (r1_is ?_)
  rw [dCall_is, aCons_is, dVar_z, aCons_is, dC_is, aNil_is]
  refine ⟨rfl, draw_is sy (at_ _ _) (by omega) (by omega) fun u y sy u0 u1 => ?_⟩
  rw [set_app (hn2 _), List.set_set]
  refine ⟨_, rfl, by unfold rngOk; simp; omega, rfl, ?_⟩
  refine (forR_is (fun t e1 h1 => ∃ (ds : List Dy) (y : Cl) (u3 u4 : Option D), Spr y ∧ ds.length = t + 1 ∧ (∀ d ∈ ds, d.ok ∧ ∀ n, (d.sp n).length ≤ 3) ∧ e1 = [some (.ref n), some (.int v), some (.ref h.length), u3, u4] ∧ h1 = h.set n y ++ [.live (.lst (Ru.mk v w ds).rd)]) ?_ ⟨[.take a b q t], y, none, none, sy, rfl, ?_, rfl, rfl⟩).mono ?_ fun d h z => z
  · rintro t _ _ ht ⟨ds, y, u3, u4, sy, dl, dok, rfl, rfl⟩
    rw [gNm_is]
    refine ⟨Nat.le_of_ble_eq_true rfl, st fun K hk => ?_⟩
    simp only [List.set_cons_succ, List.set_cons_zero]
    rw [is_asg, dLst_is, aCons_is, dCall_is, aCons_is, dVar_z, aCons_is]
    simp only [dVar_z, dVar_s]
    rw [aNil_is]
    refine ⟨rfl, ltake_is sy (at_ _ _) fun a1 b1 q1 t1 y sy ab1 ba1 b41 qo1 => ?_⟩
    rw [set_app (hn2 _), List.set_set]
    rw [aCons_is, dCall_is, aCons_is, dVar_z, aCons_is]
    simp only [dVar_z, dVar_s]
    rw [aNil_is]
    refine ⟨rfl, ltake_is sy (at_ _ _) fun a2 b2 q2 t2 y sy ab2 ba2 b42 qo2 => ?_⟩
    rw [set_app (hn2 _), List.set_set]
    rw [aCons_is, dC_is, aCons_is, dC_is, aCons_is, dBin_is, dC_is, dB1_is, dBin_is, dC_is, dCall_is, aCons_is, dVar_z, aCons_is, dC_is, aNil_is]
    refine ⟨rfl, draw_is sy (at_ _ _) (by omega) (by omega) fun c y sy c0 c1 => ?_⟩
    obtain ⟨c, rfl⟩ := Int.eq_ofNat_of_zero_le c0
    rw [set_app (hn2 _), List.set_set, add_ii, show (1 : Int) + (c : Int) = ((1 + c : Nat) : Int) by omega]
    have hc := num_len (k := 1 + c) (by omega)
    refine ⟨_, str_num (by omega), add_str (by omega) ?_⟩
    rw [aNil_is]
    refine ⟨(by decide +kernel : (5 : Nat) ≤ sizeLine), ?_⟩
    rw [gNm_is]
    refine ⟨Nat.le_of_ble_eq_true rfl, hk _ _ ?_⟩
    simp only [List.set_cons_succ, List.set_cons_zero]
    rw [is_seq, is_expr, app_is]
    simp only [dVar_z, dVar_s]
    refine ⟨_, live_at (gl _ _), ?_⟩
    rw [dCall_is, aCons_is, dVar_z, aCons_is]
    simp only [dVar_z, dVar_s]
    rw [aNil_is]
    refine ⟨rfl, ofs_is (xs := [Dy.s (.take a1 b1 q1 t1), Dy.s (.take a2 b2 q2 t2), Dy.s .turn, Dy.s .rest, Dy.s (.cut (1 + c))]) sy (at_ _ _) (Nat.le_of_ble_eq_true rfl) (Nat.le_of_ble_eq_true rfl) fun s y sy hs => ?_⟩
    obtain ⟨d, dk, rfl⟩ : ∃ d : Dy, (d.ok ∧ ∀ n, (d.sp n).length ≤ 3) ∧ s = d.s := by
      simp only [List.mem_cons, List.not_mem_nil, or_false] at hs
      rcases hs with h | h | h | h | h
      · exact ⟨_, ⟨take_ok ab1 b41 qo1, sml_take ba1⟩, h⟩
      · exact ⟨_, ⟨take_ok ab2 b42 qo2, sml_take ba2⟩, h⟩
      · exact ⟨.turn, ⟨trivial, sml_else fun _ _ _ _ z => by cases z⟩, h⟩
      · exact ⟨.rest, ⟨trivial, sml_else fun _ _ _ _ z => by cases z⟩, h⟩
      · exact ⟨.cut (1 + c), ⟨⟨by omega, by omega⟩, sml_else fun _ _ _ _ z => by cases z⟩, h⟩
    rw [set_app (hn2 _), List.set_set]
    refine ⟨_, app_at (gl _ _) rfl (by rw [Ru.len]; show ds.length + 1 ≤ 10000000; omega), ?_⟩
    rw [sl, is_pass]
    refine ⟨ds ++ [d], y, _, _, sy, by simp [dl], ?_, rfl, ?_⟩
    · intro z hz
      rcases List.mem_append.mp hz with hz | hz
      · exact dok z hz
      · rw [List.mem_singleton.mp hz]; exact dk
    · unfold Ru.rd Ru.rows
      simp
  · intro d hd
    rw [List.mem_singleton.mp hd]
    exact ⟨take_ok ab b4 qo, sml_take ba⟩
  · rintro _ _ ⟨ds, y, u3, u4, sy, dl, dok, rfl, rfl⟩
    refine hk _ _ ?_
    rw [is_seq, is_ret, dVar_s, dVar_s, dVar_z]
    refine ⟨_, frz_ref (Nat.le_refl _) (gl _ _) ?_, ?_⟩
    · intro z hz
      obtain ⟨s, _, rfl⟩ := List.mem_map.mp hz
      rfl
    · rw [take_app]
      have u2 : u.toNat ≤ 2 := by omega
      exact hQ _ y sy ⟨v2, by show v ≤ 10; omega, by show w ≤ 2; omega, by show 1 ≤ ds.length; omega, by show ds.length ≤ 6; omega, fun d hd => (dok d hd).1⟩ (fun d hd => (dok d hd).2) v4 w1 (by show ds.length ≤ 3; omega)

end
-- SPLIT
section
variable {n : Nat} {h : Hs} {x : Cl} {Q : D → Hs → Prop}
mutual
theorem dat_nr (f g : Nat → Option PyData) : ∀ d : D, D.und 0 d = true → D.dat f d = D.dat g d
  | .tup xs, u => by show (D.datAll f xs).map _ = (D.datAll g xs).map _; rw [datAll_nr f g xs u]
  | .lst xs, u => by show (D.datAll f xs).map _ = (D.datAll g xs).map _; rw [datAll_nr f g xs u]
  | .scr xs, u => by show (D.datAll f xs).map _ = (D.datAll g xs).map _; rw [datAll_nr f g xs u]
  | .ref m, u => by
    have u : Nat.blt m 0 = true := u
    cases m <;> cases u
  | .ins _ _ _, _ => rfl
  | .dct _ _, _ => rfl
  | .cls _, _ => rfl
  | .fnv _, _ => rfl
  | .exc _ _ _, _ => rfl
  | .non, _ => rfl
  | .bl _, _ => rfl
  | .int _, _ => rfl
  | .str _, _ => rfl
theorem datAll_nr (f g : Nat → Option PyData) : ∀ ds : List D, D.undAll 0 ds = true → D.datAll f ds = D.datAll g ds
  | [], _ => rfl
  | d :: ds, u => by
    have u : (D.und 0 d && D.undAll 0 ds) = true := u
    rw [Bool.and_eq_true] at u
    show bind2 (D.dat f d) (D.datAll f ds) _ = bind2 (D.dat g d) (D.datAll g ds) _
    rw [dat_nr f g d u.1, datAll_nr f g ds u.2]
end
mutual
theorem und_up {b : Nat} : ∀ d : D, D.und 0 d = true → D.und b d = true
  | .tup xs, u => undAll_up xs u
  | .lst xs, u => undAll_up xs u
  | .scr xs, u => undAll_up xs u
  | .ref m, u => by
    have u : Nat.blt m 0 = true := u
    cases m <;> cases u
  | .ins _ _ vs, u => undAll_up vs u
  | .dct _ vs, u => undAll_up vs u
  | .cls _, _ => rfl
  | .fnv _, _ => rfl
  | .exc _ _ vs, u => undAll_up vs u
  | .non, _ => rfl
  | .bl _, _ => rfl
  | .int _, _ => rfl
  | .str _, _ => rfl
theorem undAll_up {b : Nat} : ∀ ds : List D, D.undAll 0 ds = true → D.undAll b ds = true
  | [], _ => rfl
  | d :: ds, u => by
    have u : (D.und 0 d && D.undAll 0 ds) = true := u
    rw [Bool.and_eq_true] at u
    show (D.und b d && D.undAll b ds) = true
    rw [und_up d u.1, undAll_up ds u.2]; rfl
end
theorem repr_nr {d : D} (u : D.und 0 d = true) (h h' : Hs) : fRepr d h = fRepr d h' := by
  have e : dat h d = dat h' d := dat_nr _ _ d u
  unfold fRepr
  rw [e]
theorem tyD_nr {d : D} (u : D.und 0 d = true) (h h' : Hs) : tyD d h = tyD d h' := by
  cases d <;> try rfl
  rename_i m
  have u : Nat.blt m 0 = true := u
  cases m <;> cases u
/-- a value of any kind that can be shown -/
structure Od (v : D) : Prop where
  und : D.und 0 v = true
  rp : ∃ s : Str, PyData.strOk s = true ∧ ∀ h, fRepr v h = some (.str s)
  ty : ∃ t : TyD, ∀ h, tyD v h = some t
def odB (v : D) : Bool := D.und 0 v && (match fRepr v [] with
  | some (.str s) => PyData.strOk s
  | _ => false) && (tyD v []).isSome
theorem od_of {v : D} (k : odB v = true) : Od v := by
  unfold odB at k
  rw [Bool.and_eq_true, Bool.and_eq_true] at k
  obtain ⟨⟨u, r⟩, t⟩ := k
  refine ⟨u, ?_, ?_⟩
  · split at r
    · rename_i s e
      exact ⟨s, r, fun h => by rw [repr_nr u h []]; exact e⟩
    · cases r
  · obtain ⟨t, e⟩ := Option.isSome_iff_exists.mp t
    exact ⟨t, fun h => by rw [tyD_nr u h []]; exact e⟩
theorem Od.u {v : D} (o : Od v) (b : Nat) : D.und b v = true := und_up v o.und
theorem Od.f {v : D} (o : Od v) (b : Nat) (h : Hs) : frz b h 6 v = some v := frz_low (o.u b)
theorem od_nref {m : Nat} (o : Od (.ref m)) : False := by
  have u : Nat.blt m 0 = true := o.und
  cases m <;> cases u
theorem Od.noI {v : D} (o : Od v) (h : Hs) : insAt h v = none := by
  obtain ⟨t, q⟩ := o.ty
  have q := q h
  cases v <;> first | rfl | cases q | skip
  exact (od_nref o).elim
def isInt : D → Bool
  | .int _ => true
  | _ => false
def btw (v : D) (lo hi : Int) : Bool := match v with
  | .int i => decide (lo ≤ i ∧ i ≤ hi)
  | _ => false
theorem od_isi {v : D} (o : Od v) (T : TyT) : ∃ b, (∀ h, fIsi T v h = some (.bl b)) ∧ ∀ t, (∀ h, tyD v h = some t) → b = isTy t T := by
  obtain ⟨t, q⟩ := o.ty
  refine ⟨isTy t T, fun h => ?_, fun t' q' => ?_⟩
  · unfold fIsi; rw [q h]; rfl
  · have := (q []).symm.trans (q' [])
    cases this; rfl
theorem od_two {v : D} (o : Od v) : ∃ a b, (∀ h, fIsi .int v h = some (.bl a)) ∧ (∀ h, fIsi .bl v h = some (.bl b)) ∧ (a && !b) = isInt v := by
  obtain ⟨t, q⟩ := o.ty
  refine ⟨isTy t .int, isTy t .bl, fun h => by unfold fIsi; rw [q h]; rfl, fun h => by unfold fIsi; rw [q h]; rfl, ?_⟩
  have q := q []
  cases v <;> first | (cases q; done) | (cases q; rfl) | exact (od_nref o).elim
theorem int_of {v : D} (k : isInt v = true) : ∃ i, v = .int i := by
  cases v <;> first | exact ⟨_, rfl⟩ | cases k
theorem od_io {cs : List Str} {c : Str} {v : D} (o : Od v) (h : Hs) : fIsO cs c v h = some (.bl false) := by
  obtain ⟨t, q⟩ := o.ty
  unfold fIsO tyW
  rw [o.noI h, q h]; rfl
theorem od_tup {v : D} (o : Od v) : (∃ xs, v = .tup xs ∧ ∀ h, fIsi .tup v h = some (.bl true)) ∨ ((∀ xs, v ≠ .tup xs) ∧ ∀ h, fIsi .tup v h = some (.bl false)) := by
  obtain ⟨t, q⟩ := o.ty
  cases v with
  | tup xs => exact .inl ⟨xs, rfl, fun _ => rfl⟩
  | ref m => exact (od_nref o).elim
  | ins _ _ _ => exact absurd (q []) (by intro z; cases z)
  | cls _ => exact absurd (q []) (by intro z; cases z)
  | fnv _ => exact absurd (q []) (by intro z; cases z)
  | exc _ _ _ => exact absurd (q []) (by intro z; cases z)
  | _ => exact .inr ⟨(fun xs z => by cases z), fun _ => rfl⟩
theorem od_nat {k : Nat} (l : k ≤ 100) : Od (.int k) := by
  have : ∀ k < 101, odB (.int ((k : Nat) : Int)) = true := by decide +kernel
  exact od_of (this k (by omega))
/-! texts of small signs -/
def asc (s : Str) : Prop := ∀ c ∈ s.cps.toList, c < 128
theorem asc_ok {s : Str} (a : asc s) : PyData.strOk s = true := by
  show s.cps.all _ = true
  rw [← Array.all_toList]
  exact List.all_eq_true.mpr fun c hc => decide_eq_true (Nat.lt_trans (a c hc) (by decide))
theorem asc_app {a b : Str} (ha : asc a) (hb : asc b) : asc (a ++ b) := fun c hc => by
  have hc : c ∈ (a.cps ++ b.cps).toList := hc
  rw [Array.toList_append, List.mem_append] at hc
  exact hc.elim (ha c) (hb c)
theorem asc_by {s : Str} (k : (s.cps.toList.all fun c => decide (c < 128)) = true) : asc s := fun c hc => of_decide_eq_true (List.all_eq_true.mp k c hc)
theorem asc_join {y : Str} (hy : asc y) : ∀ {ps : List Str}, (∀ p ∈ ps, asc p) → asc (Str.join y ps)
  | [], _ => fun c hc => by cases hc
  | [p], h => h p (List.mem_singleton.mpr rfl)
  | p :: q :: r, h => asc_app (asc_app (h p (List.mem_cons_self ..)) hy) (asc_join hy (ps := q :: r) fun z hz => h z (List.mem_cons_of_mem _ hz))
theorem asc_num {k : Nat} (h : k ≤ 100) : asc (num k) := by
  have : ∀ k < 101, ((num k).cps.toList.all fun c => decide (c < 128)) = true := by decide +kernel
  exact asc_by (this k (by omega))
theorem Wh.asc {w : Wh} (o : w.ok) : G.asc w.s := by
  cases w with
  | top => exact asc_by (by decide +kernel)
  | bot => exact asc_by (by decide +kernel)
  | un k => exact asc_app (asc_by (by decide +kernel)) (asc_num (by have := o.2; omega))
theorem Dy.asc {d : Dy} (o : d.ok) : G.asc d.s := by
  cases d with
  | turn => exact asc_by (by decide +kernel)
  | rest => exact asc_by (by decide +kernel)
  | cut k => exact asc_app (asc_by (by decide +kernel)) (asc_num (by have := o.2; omega))
  | take a b w t =>
    obtain ⟨o1, o2, o3⟩ := o
    have h1 : G.asc (ord t) := by cases t <;> exact asc_by (by decide +kernel)
    exact asc_app (asc_app (asc_app (asc_app (asc_app (asc_app (asc_app (asc_by (by decide +kernel)) (asc_num (by omega))) (asc_by (by decide +kernel))) (asc_num (by omega))) (asc_by (by decide +kernel))) (Wh.asc o3)) (asc_by (by decide +kernel))) h1
theorem Ru.asc {r : Ru} (o : r.ok) : ∀ p ∈ r.rows, G.asc p := by
  have m10 := o.m10
  have l2 := o.l2
  intro p hp
  unfold Ru.rows at hp
  rcases List.mem_cons.mp hp with e | hp
  · rw [e]
    exact asc_app (asc_app (asc_app (asc_by (by decide +kernel)) (asc_num (by omega))) (asc_by (by decide +kernel))) (asc_num (by omega))
  · obtain ⟨d, hd, rfl⟩ := List.mem_map.mp hp
    exact Dy.asc (o.ok d hd)
theorem asc_repr {s : Str} (a : asc s) : asc (reprText s) := by
  have q2 : reprQuote s = 39 ∨ reprQuote s = 34 := by unfold reprQuote; split <;> simp
  have k : ∀ c < 128, ∀ q ∈ [39, 34], ((PySem.Builtin.Str.reprChar q c).all fun c => decide (c < 128)) = true := by decide +kernel
  have q128 : reprQuote s < 128 := by rcases q2 with e | e <;> rw [e] <;> decide
  have fl : ∀ (l : List Nat) (acc : Array Nat), (∀ c ∈ l, c < 128) → (∀ c ∈ acc.toList, c < 128) → ∀ c ∈ (l.foldl (fun out c => out ++ (PySem.Builtin.Str.reprChar (reprQuote s) c).toArray) acc).toList, c < 128 := by
    intro l
    induction l with
    | nil => intro acc _ h; exact h
    | cons d l ih =>
      intro acc h1 h2
      refine ih _ (fun c hc => h1 c (List.mem_cons_of_mem _ hc)) fun c hc => ?_
      rw [Array.toList_append, List.mem_append] at hc
      rcases hc with hc | hc
      · exact h2 c hc
      · have := k d (h1 d (List.mem_cons_self ..)) (reprQuote s) (by rcases q2 with e | e <;> rw [e] <;> simp)
        exact of_decide_eq_true (List.all_eq_true.mp this c (by simpa using hc))
  intro c hc
  unfold reprText at hc
  rw [Array.toList_push, List.mem_append] at hc
  rcases hc with hc | hc
  · rw [← Array.foldl_toList] at hc
    refine fl s.cps.toList #[reprQuote s] a (fun c hc => ?_) c hc
    rw [show c = reprQuote s by simpa using hc]; exact q128
  · rw [List.mem_singleton.mp hc]; exact q128
theorem asc_tup {ts : List Str} (h : ∀ t ∈ ts, asc t) : asc (tupleText ts) := by
  unfold tupleText
  refine asc_app (asc_app (asc_by (by decide +kernel)) (asc_join (asc_by (by decide +kernel)) h)) ?_
  split <;> exact asc_by (by decide +kernel)
theorem od_str {s : Str} (a : asc s) (l : s.length ≤ 10000) : Od (.str s) := by
  have rp : Rp 1 (.str s) = true := List.all_eq_true.mpr fun c hc => decide_eq_true (Nat.lt_trans (a c hc) (by decide))
  refine ⟨rfl, ⟨_, asc_ok (asc_repr a), fun h => repr_small (n := 1) (by decide) rp ?_⟩, ⟨.str, fun _ => rfl⟩⟩
  show s.cps.size ≤ 20000
  have : s.cps.size ≤ 10000 := l
  omega
theorem shown_strs : ∀ ss : List Str, PyData.shownAll (toPs (ss.map D.str)) = ss.map reprText
  | [] => rfl
  | s :: ss => by
    show PyData.shown (.str s) :: PyData.shownAll (toPs (ss.map D.str)) = _
    rw [shown_strs ss]; rfl
theorem wg_strs : ∀ ss : List Str, wgtsS (ss.map D.str) = (ss.map (·.length)).sum + ss.length
  | [] => rfl
  | s :: ss => by
    show s.cps.size + 1 + wgtsS (ss.map D.str) = _
    rw [wg_strs ss, List.map_cons, List.sum_cons, List.length_cons]
    show s.length + 1 + _ = _
    omega
theorem und_strs0 (b : Nat) : ∀ ss : List Str, D.undAll b (ss.map D.str) = true
  | [] => rfl
  | s :: ss => by
    show (true && D.undAll b (ss.map D.str)) = true
    rw [und_strs0 b ss]; rfl
theorem od_strs {ss : List Str} (a : ∀ s ∈ ss, asc s) (l : (ss.map (·.length)).sum + ss.length ≤ 10000) : Od (.tup (ss.map D.str)) := by
  have rp : Rp 2 (.tup (ss.map D.str)) = true := by
    show (ss.map D.str).all (Rp 1) = true
    exact all_map fun s hs => List.all_eq_true.mpr fun c hc => decide_eq_true (Nat.lt_trans (a s hs c hc) (by decide))
  refine ⟨und_strs0 _ ss, ⟨_, ?_, fun h => repr_small (n := 2) (by decide) rp ?_⟩, ⟨.tup, fun _ => rfl⟩⟩
  · refine asc_ok ?_
    show G.asc (tupleText (PyData.shownAll (toPs (ss.map D.str))))
    rw [shown_strs]
    refine asc_tup fun t ht => ?_
    obtain ⟨s, hs, rfl⟩ := List.mem_map.mp ht
    exact asc_repr (a s hs)
  · show wgtsS (ss.map D.str) ≤ 20000
    rw [wg_strs]; omega
theorem rows_len {r : Ru} (o : r.ok) : (r.rows.map (·.length)).sum + r.rows.length ≤ 500 := by
  have n6 := o.n6
  have z := lens_le (c := 60) (xs := r.rows) fun p hp => (Ru.row o p hp).1
  have e : r.rows.length = r.pl.length + 1 := by unfold Ru.rows; simp
  rw [e] at z ⊢
  omega
theorem join_le {y : Str} : ∀ ps : List Str, (Str.join y ps).length ≤ (ps.map (·.length)).sum + ps.length * y.length
  | [] => Nat.zero_le _
  | [p] => by
    show p.length ≤ p.length + 0 + 1 * y.length
    omega
  | p :: q :: r => by
    have ih := join_le (y := y) (q :: r)
    have e : (Str.join y (p :: q :: r)).length = p.length + y.length + (Str.join y (q :: r)).length := by
      show (p ++ y ++ Str.join y (q :: r)).length = _
      rw [show ∀ a b : Str, (a ++ b).length = a.length + b.length from fun a b => Array.size_append .., show ∀ a b : Str, (a ++ b).length = a.length + b.length from fun a b => Array.size_append ..]
    rw [e, List.map_cons, List.sum_cons, List.length_cons, Nat.add_mul]
    omega
theorem od_rows {r : Ru} (o : r.ok) : Od (.tup r.rd) := od_strs (Ru.asc o) (by have := rows_len o; omega)
theorem od_text {r : Ru} (o : r.ok) : Od (.str (Txt.join "\n" r.rows)) := by
  rw [TL.join_eq]
  refine od_str (asc_join (asc_by (by decide +kernel)) (Ru.asc o)) ?_
  have := rows_len o
  have := join_le (y := "\n") r.rows
  have s1 : ("\n" : Str).length = 1 := by decide +kernel
  rw [s1] at this
  omega
theorem rp_str {n : Nat} {s : Str} (k : PyData.strOk s = true) : Rp n (.str s) = true := by
  have k' : s.cps.toList.all (fun c => decide (c < 0x110000)) = true := by rw [Array.all_toList]; exact k
  have z : (s.cps.toList.all fun c => decide (c < 16 ^ 8)) = true := List.all_eq_true.mpr fun c hc => decide_eq_true (Nat.lt_trans (of_decide_eq_true (List.all_eq_true.mp k' c hc)) (by decide))
  cases n <;> exact z
theorem prop_is {f c : Str} {ρ : List D → Hs → Res D} {a : Den} {e : En} (k : (a e h).is fun x h => ∃ ks vs, insAt h x = some (c, ks, vs) ∧ (ρ [x] h).is Q) : (dAtt f [] [(c, ρ)] a e h).is Q := by
  unfold dAtt
  rw [is_bind]
  refine k.mono fun x h ⟨ks, vs, q, z⟩ => ?_
  rw [q]
  dsimp only
  rw [if_neg (by simp)]
  have e : List.lookup c [(c, ρ)] = some ρ := by rw [List.lookup_cons, beq_self_eq_true]
  rw [e]
  exact ar_is rfl z
theorem ins_d {r : Ru} : insAt h r.d = some (("Rule" : Str), ruK, r.vs) := by kernel_rfl
theorem jo_rows {r : Ru} (o : r.ok) {v : D} (hv : starD h v = some r.rd) : joinD h (.str "\n") v = some (.str (Txt.join "\n" r.rows)) := by
  have n6 := o.n6
  show (match starD h v with | none => none | some ds => match strL ds with | none => none | some ys => if (ys.map fun x : Str => x.length).sum + ys.length * ("\n" : Str).length ≤ 16777216 then some (D.str (Txt.join "\n" ys)) else none) = _
  rw [hv]
  dsimp only
  rw [show strL r.rd = some r.rows from strL_map _]
  dsimp only
  rw [if_pos]
  have z := lens_le (c := 60) (xs := r.rows) fun p hp => (Ru.row o p hp).1
  have e : r.rows.length = r.pl.length + 1 := by unfold Ru.rows; simp
  rw [show ("\n" : Str).length = 1 from by decide +kernel]
  rw [e] at z ⊢
  omega
theorem stri_is {c : Str} {n : Nat} {ρ : List D → Hs → Res D} {a : Den} {e : En} (k : (a e h).is fun x h => ∃ ks vs, insAt h x = some (c, ks, vs) ∧ n = 1 ∧ (ρ [x] h).is fun d h => ∃ s, d = .str s ∧ Q (.str s) h) : (dStrI [(c, n, ρ)] a e h).is Q := by
  unfold dStrI
  rw [is_bind]
  refine k.mono fun x h ⟨ks, vs, q, en, z⟩ => ?_
  subst en
  rw [q]
  dsimp only
  have el : List.lookup c [(c, 1, ρ)] = some (1, ρ) := by rw [List.lookup_cons, beq_self_eq_true]
  rw [el]
  dsimp only
  rw [is_bind]
  refine ar_is rfl (z.mono fun d h ⟨s, ed, w⟩ => ?_)
  subst ed
  exact w
theorem rd0 {r : Ru} : ixO (.lst r.rd) (.int 0) h = some (.str (hd r.m r.l)) := by
  have : atI r.rd ((0 : Nat) : Int) = some (.str (hd r.m r.l)) := Ev.atI_nat (by rw [Ru.len]; omega)
  exact this
theorem sp_hd {m l : Nat} (hm : m ≤ 10) (hl : l ≤ 2) : splitD (.str (hd m l)) (.str " ") = some (.lst [.str "plates", .str (num m), .str "away", .str (num l)]) := by
  show (if ((" " : Str).length == 0) = false then if (hd m l).length + 2 ≤ sizeLine then some (D.lst ((Txt.split (hd m l) " ").map D.str)) else none else none) = _
  rw [if_pos (by decide +kernel), if_pos (by have := hd_len hm hl; rw [show sizeLine = 16777216 from rfl]; omega), hd_split hm hl]; rfl
theorem lhead_is {r : Ru} (o : r.ok) (hQ : Q (.lst [.int r.m, .int r.l]) h) : (r__law_head [.lst r.rd] h).is Q := by
  have m10 := o.m10
  have l2 := o.l2
  have i1 : ∀ h', ixO (.lst [.str "plates", .str (num r.m), .str "away", .str (num r.l)]) (.int 1) h' = some (.str (num r.m)) := fun _ => rfl
  have i3 : ∀ h', ixO (.lst [.str "plates", .str (num r.m), .str "away", .str (num r.l)]) (.int 3) h' = some (.str (num r.l)) := fun _ => rfl
  refine run_is rfl (Nat.le_of_ble_eq_true rfl) ?_
  refine st fun K hk => ?_
  show (sAsg _ _ [some (.lst r.rd), none] h).is _ _
  simp only [is_asg, tm_is, dIx_is, dVar_z, dVar_s, dC_is, rd0, Option.some.injEq, exists_eq_left', asS, sp_hd m10 l2, gNm_is]
  refine ⟨Nat.le_of_ble_eq_true rfl, hk _ _ ?_⟩
  simp only [List.set_cons_succ, List.set_cons_zero, is_seq, is_ret, dLst_is, aCons_is, aNil_is, dB1_is, dIx_is, dVar_z, dVar_s, dC_is, i1, i3, int_num (show r.m ≤ 10 by omega), int_num (show r.l ≤ 10 by omega), Option.some.injEq, exists_eq_left']
  exact ⟨(by decide +kernel : (2 : Nat) ≤ sizeLine), fz rfl hQ⟩
/-! what a rule tells -/
theorem at_rd {r : Ru} : attD "told" ["Rule"] r.d h = some (.tup r.rd) := by kernel_rfl
theorem at_mn {r : Ru} : attD "many" ["Rule"] r.d h = some (.int r.m) := by kernel_rfl
theorem at_lt {r : Ru} : attD "late" ["Rule"] r.d h = some (.int r.l) := by kernel_rfl
theorem at_pn {r : Ru} : attD "plan" ["Rule"] r.d h = some (.lst (r.pl.map Dy.d)) := by kernel_rfl
def rtx (r : Ru) : Str := Txt.join "\n" r.rows
theorem prows_is {r : Ru} (hQ : Q (.tup r.rd) h) : (r_Rule_rows [r.d] h).is Q := by
  refine run_is rfl (Nat.le_of_ble_eq_true rfl) ?_
  show (sSeq _ _ [some r.d] h).is _ _
  simp only [is_seq, is_ret, att_is, dVar_z, at_rd, Option.some.injEq, exists_eq_left']
  exact fz (und_strs _ _) hQ
theorem pplates_is {r : Ru} (hQ : Q (.int r.m) h) : (r_Rule_plates [r.d] h).is Q := by
  refine run_is rfl (Nat.le_of_ble_eq_true rfl) ?_
  show (sSeq _ _ [some r.d] h).is _ _
  simp only [is_seq, is_ret, att_is, dVar_z, at_mn, Option.some.injEq, exists_eq_left']
  exact fz rfl hQ
theorem paway_is {r : Ru} (hQ : Q (.int r.l) h) : (r_Rule_away [r.d] h).is Q := by
  refine run_is rfl (Nat.le_of_ble_eq_true rfl) ?_
  show (sSeq _ _ [some r.d] h).is _ _
  simp only [is_seq, is_ret, att_is, dVar_z, at_lt, Option.some.injEq, exists_eq_left']
  exact fz rfl hQ
theorem ptext_is {r : Ru} (o : r.ok) (hQ : Q (.str (rtx r)) h) : (r_Rule_text [r.d] h).is Q := by
  refine run_is rfl (Nat.le_of_ble_eq_true rfl) ?_
  show (sSeq _ _ [some r.d] h).is _ _
  rw [is_seq, is_ret, tm_is, dC_is]
  refine ⟨_, rfl, ?_⟩
  rw [att_is, dVar_z]
  exact ⟨_, at_rd, _, jo_rows o rfl, fz rfl hQ⟩
theorem pstr_is {r : Ru} (o : r.ok) (hQ : Q (.str (rtx r)) h) : (r_Rule___str__ [r.d] h).is Q := by
  refine run_is rfl (Nat.le_of_ble_eq_true rfl) ?_
  show (sSeq _ _ [some r.d] h).is _ _
  rw [is_seq, is_ret, tm_is, dC_is]
  refine ⟨_, rfl, ?_⟩
  rw [att_is, dVar_z]
  exact ⟨_, at_rd, _, jo_rows o rfl, fz rfl hQ⟩
theorem plen_is {r : Ru} (hQ : Q (.int r.pl.length) h) : (r_Rule___len__ [r.d] h).is Q := by
  have len : ∀ h', fLen (.lst (r.pl.map Dy.d)) h' = some (.int r.pl.length) := fun h' => by
    show some (D.int (r.pl.map Dy.d).length) = _
    rw [List.length_map]
  refine run_is rfl (Nat.le_of_ble_eq_true rfl) ?_
  show (sSeq _ _ [some r.d] h).is _ _
  simp only [is_seq, is_ret, dB1_is, att_is, dVar_z, at_pn, len, Option.some.injEq, exists_eq_left']
  exact fz rfl hQ
theorem pbool_is {r : Ru} (hQ : Q (.bl true) h) : (r_Rule___bool__ [r.d] h).is Q := by
  refine run_is rfl (Nat.le_of_ble_eq_true rfl) ?_
  show (sSeq _ _ [some r.d] h).is _ _
  simp only [is_seq, is_ret, dC_is]
  exact fz rfl hQ
def rpt (k : Nat) : Str := ("Rule of " : Str) ++ num k ++ (" days" : Str)
theorem js_cons {d : Den} {ds : List Den} {acc : Str} {e : En} (k : (d e h).is fun x h => ∃ y, x = .str y ∧ (acc ++ y).length ≤ sizeLine ∧ (dJs ds (acc ++ y) e h).is Q) : (dJs (d :: ds) acc e h).is Q := by
  show ((d e h).bind fun x h => match x with
    | .str y => if (acc ++ y).length ≤ sizeLine then dJs ds (acc ++ y) e h else .bad
    | _ => .bad).is _
  rw [is_bind]
  refine k.mono fun x h1 ⟨y, e1, l, k⟩ => ?_
  subst e1
  dsimp only
  rw [if_pos l]
  exact k
theorem prepr_is {r : Ru} (o : r.ok) (hQ : Q (.str (rpt r.pl.length)) h) : (r_Rule___repr__ [r.d] h).is Q := by
  have n6 := o.n6
  have len : ∀ h', fLen (.lst (r.pl.map Dy.d)) h' = some (.int r.pl.length) := fun h' => by
    show some (D.int (r.pl.map Dy.d).length) = _
    rw [List.length_map]
  have all : ∀ k < 7, (Str.empty ++ ("Rule of " : Str)).length ≤ sizeLine ∧ ((k : Nat) : Int).natAbs.log2 < 1920 ∧ (Str.empty ++ ("Rule of " : Str) ++ toString ((k : Nat) : Int)).length ≤ sizeLine ∧ (Str.empty ++ ("Rule of " : Str) ++ toString ((k : Nat) : Int) ++ (" days" : Str)).length ≤ sizeLine ∧ Str.empty ++ ("Rule of " : Str) ++ toString ((k : Nat) : Int) ++ (" days" : Str) = rpt k := by decide +kernel
  obtain ⟨a1, a2, a3, a4, a5⟩ := all r.pl.length (by omega)
  refine run_is rfl (Nat.le_of_ble_eq_true rfl) ?_
  show (sSeq _ _ [some r.d] h).is _ _
  rw [is_seq, is_ret]
  refine js_cons ?_
  rw [dC_is]
  refine ⟨_, rfl, a1, js_cons ?_⟩
  unfold dFmt
  rw [is_bind]
  simp only [dB1_is, att_is, dVar_z, at_pn, len, Option.some.injEq, exists_eq_left']
  show (if ((r.pl.length : Nat) : Int).natAbs.log2 < 1920 then Res.ok (D.str (toString ((r.pl.length : Nat) : Int))) h else .bad).is _
  rw [if_pos a2, res_ok]
  refine ⟨_, rfl, a3, js_cons ?_⟩
  rw [dC_is]
  refine ⟨_, rfl, a4, ?_⟩
  rw [a5]
  exact fz rfl hQ
/-! what is built in, of rules -/
theorem spI_is {f : F1} {p : D → Bool} {c : Str} {n : Nat} {ρ : List D → Hs → Res D} {a : Den} {e : En} (k : (a e h).is fun x h => ∃ ks vs, insAt h x = some (c, ks, vs) ∧ n = 1 ∧ (ρ [x] h).is fun d h => p d = true ∧ Q d h) : (dSpI f p [(c, n, ρ)] a e h).is Q := by
  unfold dSpI
  rw [is_bind]
  refine k.mono fun x h1 ⟨ks, vs, q, e1, z⟩ => ?_
  subst e1
  rw [q]
  dsimp only
  rw [show List.lookup c [(c, 1, ρ)] = some (1, ρ) by rw [List.lookup_cons, beq_self_eq_true]]
  dsimp only
  rw [is_bind]
  refine ar_is rfl (z.mono fun d h2 ⟨hp, q⟩ => ?_)
  rw [if_pos hp]
  exact q
theorem spN_is {f : F1} {p : D → Bool} {tb : List (Str × Nat × (List D → Hs → Res D))} {a : Den} {e : En} (k : (a e h).is fun x h => insAt h x = none ∧ ∃ d, f x h = some d ∧ Q d h) : (dSpI f p tb a e h).is Q := by
  unfold dSpI
  rw [is_bind]
  refine k.mono fun x h1 ⟨q, d, e1, k⟩ => ?_
  rw [q]
  dsimp only
  rw [e1]
  exact k
theorem strN_is {tb : List (Str × Nat × (List D → Hs → Res D))} {a : Den} {e : En} (k : (a e h).is fun x h => insAt h x = none ∧ ∃ d, fStr x h = some d ∧ Q d h) : (dStrI tb a e h).is Q := by
  unfold dStrI
  rw [is_bind]
  refine k.mono fun x h1 ⟨q, d, e1, k⟩ => ?_
  rw [q]
  dsimp only
  rw [e1]
  exact k
def toldD (r : Ru) : D := .lst [.tup r.rd, .str (rtx r), .int r.m, .int r.l, .int r.pl.length, .str (rtx r), .str (rpt r.pl.length)]
theorem rtx_ok {r : Ru} (o : r.ok) : PyData.strOk (rtx r) = true := by
  unfold rtx
  rw [TL.join_eq]
  exact asc_ok (asc_join (asc_by (by decide +kernel)) (Ru.asc o))
theorem told_rp {r : Ru} (o : r.ok) (h : Hs) : fRepr (toldD r) h = some (.str (toP (toldD r)).shown) := by
  have m10 := o.m10
  have l2 := o.l2
  have n6 := o.n6
  have nums : ∀ k < 11, Rp 2 (.int ((k : Nat) : Int)) = true ∧ wgtS (.int ((k : Nat) : Int)) ≤ 200 := by decide +kernel
  have rps : ∀ k < 7, PyData.strOk (rpt k) = true ∧ (rpt k).length ≤ 50 := by decide +kernel
  have rr : Rp 2 (.tup r.rd) = true := by
    show (r.rows.map D.str).all (Rp 1) = true
    exact all_map fun s hs => rp_str (asc_ok (Ru.asc o s hs))
  have wr : wgtS (.tup r.rd) ≤ 500 := by
    show wgtsS (r.rows.map D.str) ≤ 500
    rw [wg_strs]; exact rows_len o
  have wt : wgtS (.str (rtx r)) ≤ 500 := Ru.tlen o
  have w6 : wgtS (.str (rpt r.pl.length)) ≤ 50 := (rps r.pl.length (by omega)).2
  refine repr_small (n := 3) (by decide) ?_ ?_
  · show (Rp 2 _ && (Rp 2 _ && (Rp 2 _ && (Rp 2 _ && (Rp 2 _ && (Rp 2 _ && (Rp 2 _ && true))))))) = true
    rw [rr, rp_str (rtx_ok o), (nums r.m (by omega)).1, (nums r.l (by omega)).1, (nums r.pl.length (by omega)).1, rp_str (rps r.pl.length (by omega)).1]; rfl
  · show wgtS _ + 1 + (wgtS _ + 1 + (wgtS _ + 1 + (wgtS _ + 1 + (wgtS _ + 1 + (wgtS _ + 1 + (wgtS _ + 1 + 0)))))) ≤ 20000
    have w2 := (nums r.m (by omega)).2
    have w3 := (nums r.l (by omega)).2
    have w4 := (nums r.pl.length (by omega)).2
    omega
theorem shows_is {r : Ru} (o : r.ok) (hQ : Q (.bl true) h) : (r__law_shows [r.d, .lst r.rd] h).is Q := by
  have n6 := o.n6
  have len : ∀ h', fLen (.lst r.rd) h' = some (.int (r.pl.length + 1 : Nat)) := fun h' => by
    show some (D.int r.rd.length) = _
    rw [Ru.len]
  have jo : ∀ h', joinD h' (.str "\n") (.lst r.rd) = some (.str (rtx r)) := fun h' => jo_rows o rfl
  have ft : ∀ h', fTup (.lst r.rd) h' = some (.tup r.rd) := fun _ => rfl
  have im : ∀ h', insAt h' r.d = some (("Rule" : Str), ruK, r.vs) := fun h' => ins_d
  have told : ∀ h, fRepr (.lst [.tup r.rd, .str (rtx r), .int r.m, .int r.l, .int r.pl.length, .str (rtx r), .str (rpt r.pl.length)]) h = some (.str (toP (toldD r)).shown) := told_rp o
  have p1 : ∀ {h : Hs} {Q : D → Hs → Prop}, Q (.str (rtx r)) h → (r_Rule_text [r.d] h).is Q := fun q => ptext_is o q
  have p2 : ∀ {h : Hs} {Q : D → Hs → Prop}, Q (.str (rtx r)) h → (r_Rule___str__ [r.d] h).is Q := fun q => pstr_is o q
  have p3 : ∀ {h : Hs} {Q : D → Hs → Prop}, Q (.str (rpt r.pl.length)) h → (r_Rule___repr__ [r.d] h).is Q := fun q => prepr_is o q
  have p4 : ∀ {h : Hs} {Q : D → Hs → Prop}, Q (.tup r.rd) h → (r_Rule_rows [r.d] h).is Q := fun q => prows_is q
  have p5 : ∀ {h : Hs} {Q : D → Hs → Prop}, Q (.int r.m) h → (r_Rule_plates [r.d] h).is Q := fun q => pplates_is q
  have p6 : ∀ {h : Hs} {Q : D → Hs → Prop}, Q (.int r.l) h → (r_Rule_away [r.d] h).is Q := fun q => paway_is q
  have p7 : ∀ {h : Hs} {Q : D → Hs → Prop}, Q (.int r.pl.length) h → (r_Rule___len__ [r.d] h).is Q := fun q => plen_is q
  have p8 : ∀ {h : Hs} {Q : D → Hs → Prop}, Q (.bl true) h → (r_Rule___bool__ [r.d] h).is Q := fun q => pbool_is q
  have hd_ : ∀ {h : Hs} {Q : D → Hs → Prop}, Q (.lst [.int r.m, .int r.l]) h → (r__law_head [.lst r.rd] h).is Q := fun q => lhead_is o q
  have all : (∀ h, fStr (.int ((r.pl.length : Nat) : Int)) h = some (.str (num r.pl.length))) ∧ (("Rule of " : Str) ++ num r.pl.length).length ≤ 100 ∧ rpt r.pl.length = ("Rule of " : Str) ++ num r.pl.length ++ (" days" : Str) ∧ (rpt r.pl.length).length ≤ 100 := by
    have : ∀ k < 7, (("Rule of " : Str) ++ num k).length ≤ 100 ∧ rpt k = ("Rule of " : Str) ++ num k ++ (" days" : Str) ∧ (rpt k).length ≤ 100 := by decide +kernel
    have l2 : ∀ k < 7, ((k : Nat) : Int).natAbs.log2 < 1920 := by decide +kernel
    refine ⟨fun h => ?_, this _ (by omega)⟩
    show (if ((r.pl.length : Nat) : Int).natAbs.log2 < 1920 then some (D.str (toString ((r.pl.length : Nat) : Int))) else none) = _
    rw [if_pos (l2 _ (by omega))]; rfl
  obtain ⟨b1, b2, b3, b4⟩ := all
  obtain ⟨c1, c2⟩ : ("Rule of " : Str).length + (num r.pl.length).length ≤ 1000 ∧ (("Rule of " : Str) ++ num r.pl.length).length + (" days" : Str).length ≤ 1000 := by
    have : ∀ k < 7, ("Rule of " : Str).length + (num k).length ≤ 1000 ∧ (("Rule of " : Str) ++ num k).length + (" days" : Str).length ≤ 1000 := by decide +kernel
    exact this _ (by omega)
  have pl : isLn (.int ((r.pl.length : Nat) : Int)) = true := by
    have : ∀ k < 7, isLn (.int ((k : Nat) : Int)) = true := by decide +kernel
    exact this _ (by omega)
  generalize (toP (toldD r)).shown = W at told
  generalize rtx r = T at *
  generalize rpt r.pl.length = U at *
  generalize r.d = dd at *
  generalize r.vs = vs at *
  refine run_is rfl (Nat.le_of_ble_eq_true rfl) ?_
  refine st fun k hk => ?_
  show (sPar _ _ [some dd, some (.lst r.rd), none, none, none, none] h).is _ _
  rw [is_par, aCons_is, tm_is, dC_is]
  refine ⟨_, rfl, ?_⟩
  simp only [dVar_z, dVar_s]
  refine ⟨_, jo _, ?_⟩
  rw [aCons_is, dBin_is]
  refine spN_is ?_
  simp only [dVar_z, dVar_s]
  refine ⟨rfl, _, len _, ?_⟩
  simp only [dC_is, sub_ii, aNil_is]
  rw [show ((r.pl.length + 1 : Nat) : Int) - 1 = (r.pl.length : Int) by omega]
  refine ⟨rfl, hk _ _ ?_⟩
  clear hk k
  simp only [setsE, List.set_cons_succ, List.set_cons_zero]
  refine st fun k hk => ?_
  rw [is_asg, dLst_is, aCons_is]
  refine prop_is ?_
  simp only [dVar_z, dVar_s]
  refine ⟨_, _, im _, p4 ?_⟩
  rw [aCons_is]
  refine prop_is ?_
  simp only [dVar_z, dVar_s]
  refine ⟨_, _, im _, p1 ?_⟩
  rw [aCons_is]
  refine prop_is ?_
  simp only [dVar_z, dVar_s]
  refine ⟨_, _, im _, p5 ?_⟩
  rw [aCons_is]
  refine prop_is ?_
  simp only [dVar_z, dVar_s]
  refine ⟨_, _, im _, p6 ?_⟩
  rw [aCons_is]
  refine spI_is ?_
  simp only [dVar_z, dVar_s]
  refine ⟨_, _, im _, by first | rfl | trivial, p7 ⟨pl, ?_⟩⟩
  rw [aCons_is]
  refine stri_is ?_
  simp only [dVar_z, dVar_s]
  refine ⟨_, _, im _, by first | rfl | trivial, p2 ⟨_, rfl, ?_⟩⟩
  rw [aCons_is]
  refine spI_is ?_
  simp only [dVar_z, dVar_s]
  refine ⟨_, _, im _, by first | rfl | trivial, p3 ⟨rfl, ?_⟩⟩
  rw [aNil_is]
  refine ⟨(by decide +kernel : (7 : Nat) ≤ sizeLine), ?_⟩
  rw [gNm_is]
  refine ⟨Nat.le_of_ble_eq_true rfl, hk _ _ ?_⟩
  clear hk k
  simp only [List.set_cons_succ, List.set_cons_zero]
  refine st fun k hk => ?_
  rw [is_asg, dBin_is, dBin_is, dLst_is]
  simp only [aCons_is, aNil_is, dB1_is, dVar_z, dVar_s, ft, Option.some.injEq, exists_eq_left']
  refine ⟨(by decide +kernel : (2 : Nat) ≤ sizeLine), ?_⟩
  rw [dCall_is]
  simp only [aCons_is, aNil_is, dVar_z, dVar_s]
  refine ⟨by first | rfl | trivial, hd_ ?_⟩
  rw [add_ll]
  refine ⟨(by decide +kernel : (4 : Nat) ≤ sizeLine), ?_⟩
  rw [dLst_is]
  simp only [aCons_is, aNil_is, dVar_z, dVar_s]
  rw [dBin_is, dBin_is, dC_is]
  refine strN_is ?_
  simp only [dVar_z, dVar_s]
  refine ⟨rfl, _, b1 _, ?_⟩
  refine add_str c1 ?_
  rw [dC_is]
  refine add_str c2 ?_
  rw [← b3]
  refine ⟨(by decide +kernel : (3 : Nat) ≤ sizeLine), ?_⟩
  rw [add_ll]
  refine ⟨(by decide +kernel : (7 : Nat) ≤ sizeLine), ?_⟩
  rw [gNm_is]
  refine ⟨Nat.le_of_ble_eq_true rfl, hk _ _ ?_⟩
  clear hk k
  simp only [List.set_cons_succ, List.set_cons_zero]
  rw [is_seq, is_ret]
  refine dAn_is ?_
  rw [dOf_is, tCm_is]
  refine spN_is ?_
  simp only [dVar_z, dVar_s]
  refine ⟨rfl, _, told _, spN_is ?_⟩
  simp only [dVar_z, dVar_s]
  refine ⟨rfl, _, told _, ?_⟩
  simp only [cop_eq, eq_ss, Option.some.injEq, exists_eq_left', beq_self_eq_true]
  refine ⟨true, rfl, ?_⟩
  rw [if_pos rfl]
  refine spI_is ?_
  simp only [dVar_z, dVar_s]
  exact ⟨_, _, im _, by first | rfl | trivial, p8 ⟨rfl, fz rfl hQ⟩⟩

end
-- SPLIT
section
variable {n : Nat} {h : Hs} {x : Cl} {Q : D → Hs → Prop}
theorem eqv_strs : ∀ a b : List Str, PyData.eqvAll (toPs (a.map D.str)) (toPs (b.map D.str)) = (a == b)
  | [], [] => rfl
  | [], _ :: _ => rfl
  | _ :: _, [] => rfl
  | x :: a, y :: b => by
    show PyData.eqvAll (toPs (D.str x :: a.map D.str)) (toPs (D.str y :: b.map D.str)) = _
    rw [eqvAll_cons, eqv_strs a b]
    show ((x == y) && (a == b)) = _
    rfl
theorem pl_strs {n : Nat} {ws : List Str} (a : ∀ w ∈ ws, asc w) : Pl (n + 1) (.lst (ws.map D.str)) = true := by
  show (ws.map D.str).all (Pl n) = true
  refine all_map fun s hs => ?_
  have := asc_ok (a s hs)
  cases n <;> exact this
theorem eq_strs {a b : List Str} (ha : ∀ w ∈ a, asc w) (hb : ∀ w ∈ b, asc w) (h : Hs) : eqS (.lst (a.map D.str)) (.lst (b.map D.str)) h = some (a == b) := by
  rw [eqS_pl (n := 1) (by decide) (pl_strs ha) (pl_strs hb)]
  show some (PyData.eqvAll (toPs (a.map D.str)) (toPs (b.map D.str))) = _
  rw [eqv_strs]
theorem eq_tups {a b : List Str} (ha : ∀ w ∈ a, asc w) (hb : ∀ w ∈ b, asc w) (h : Hs) : eqS (.tup (a.map D.str)) (.tup (b.map D.str)) h = some (a == b) := by
  have pa : Pl 1 (.tup (a.map D.str)) = true := pl_strs (n := 0) ha
  have pb : Pl 1 (.tup (b.map D.str)) = true := pl_strs (n := 0) hb
  rw [eqS_pl (n := 1) (by decide) pa pb]
  show some (PyData.eqvAll (toPs (a.map D.str)) (toPs (b.map D.str))) = _
  rw [eqv_strs]
/-! == of rules -/
theorem eqI_is {tb : List (Str × Nat × (List D → Hs → Res D))} {a b : Den} {e : En} {Q : Bool → Hs → Prop} {c : Str} {ρ : List D → Hs → Res D} (hl : tb.lookup c = some (2, ρ)) (k : (a e h).is fun x h1 => (b e h1).is fun y h2 => ∃ ks vs ks' vs', insAt h2 x = some (c, ks, vs) ∧ insAt h2 y = some (c, ks', vs') ∧ (ρ [x, y] h2).is fun d h3 => ∃ b, d = .bl b ∧ Q b h3) : (tEqI tb a b e h).is Q := by
  unfold Ev.tEqI
  rw [is_bind]
  refine k.mono fun x h1 k => ?_
  rw [is_bind]
  refine k.mono fun y h2 ⟨ks, vs, ks', vs', q1, q2, k⟩ => ?_
  unfold eqI
  rw [q1, q2]
  dsimp only
  rw [if_pos rfl, hl]
  dsimp only
  rw [is_bind]
  refine ar_is rfl (k.mono fun d h3 ⟨b, e, q⟩ => ?_)
  subst e
  exact q
theorem eqN_is {tb : List (Str × Nat × (List D → Hs → Res D))} {a b : Den} {e : En} {Q : Bool → Hs → Prop} (k : (a e h).is fun x h1 => (b e h1).is fun y h2 => insAt h2 x = none ∧ ∃ c, cop .Eq x y h2 = some c ∧ Q c h2) : (tEqI tb a b e h).is Q := by
  unfold Ev.tEqI
  rw [is_bind]
  refine k.mono fun x h1 k => ?_
  rw [is_bind]
  refine k.mono fun y h2 ⟨q1, c, q2, k⟩ => ?_
  unfold eqI
  rw [q1]
  dsimp only
  unfold cmp2
  rw [q2]
  exact k
theorem eqO_is {tb : List (Str × Nat × (List D → Hs → Res D))} {a b : Den} {e : En} {Q : Bool → Hs → Prop} {c : Str} {ρ : List D → Hs → Res D} (hl : tb.lookup c = some (2, ρ)) (k : (a e h).is fun x h1 => (b e h1).is fun y h2 => ∃ ks vs t, insAt h2 x = some (c, ks, vs) ∧ insAt h2 y = none ∧ tyD y h2 = some t ∧ (ρ [x, y] h2).is fun d h3 => ∃ b, d = .bl b ∧ Q b h3) : (tEqI tb a b e h).is Q := by
  unfold Ev.tEqI
  rw [is_bind]
  refine k.mono fun x h1 k => ?_
  rw [is_bind]
  refine k.mono fun y h2 ⟨ks, vs, t, q1, q2, q3, k⟩ => ?_
  unfold eqI
  rw [q1, q2]
  dsimp only
  rw [q3]
  dsimp only
  rw [hl]
  dsimp only
  rw [is_bind]
  refine ar_is rfl (k.mono fun d h3 ⟨b, e, q⟩ => ?_)
  subst e
  exact q
theorem neI_is {tb : List (Str × Nat × (List D → Hs → Res D))} {a b : Den} {e : En} {Q : Bool → Hs → Prop} {c : Str} {ρ : List D → Hs → Res D} (hl : tb.lookup c = some (2, ρ)) (k : (a e h).is fun x h1 => (b e h1).is fun y h2 => ∃ ks vs ks' vs', insAt h2 x = some (c, ks, vs) ∧ insAt h2 y = some (c, ks', vs') ∧ (ρ [x, y] h2).is fun d h3 => ∃ b, d = .bl b ∧ Q (!b) h3) : (tNeI tb a b e h).is Q := by
  unfold Ev.tNeI
  rw [is_bind]
  refine k.mono fun x h1 k => ?_
  rw [is_bind]
  refine k.mono fun y h2 ⟨ks, vs, ks', vs', q1, q2, k⟩ => ?_
  unfold neI
  rw [q1, q2]
  dsimp only
  rw [if_pos rfl, hl]
  dsimp only
  rw [is_bind]
  refine ar_is rfl (k.mono fun d h3 ⟨b, e, q⟩ => ?_)
  subst e
  exact q
theorem neN_is {tb : List (Str × Nat × (List D → Hs → Res D))} {a b : Den} {e : En} {Q : Bool → Hs → Prop} (k : (a e h).is fun x h1 => (b e h1).is fun y h2 => insAt h2 x = none ∧ ∃ c, cop .NotEq x y h2 = some c ∧ Q c h2) : (tNeI tb a b e h).is Q := by
  unfold Ev.tNeI
  rw [is_bind]
  refine k.mono fun x h1 k => ?_
  rw [is_bind]
  refine k.mono fun y h2 ⟨q1, c, q2, k⟩ => ?_
  unfold neI
  rw [q1]
  dsimp only
  unfold cmp2
  rw [q2]
  exact k
theorem cmK_is {c : Str} {n N : Nat} {pm : List Nat} {ρ : List D → Hs → Res D} {a : DenA} {e : En} (k : (a e h).is fun ds h => ds.length = N ∧ (arK n pm ρ (.cls c :: ds) h).is Q) : (dCmK c n ρ N pm a e h).is Q := by
  unfold dCmK
  rw [is_bind]
  refine k.mono fun ds h1 ⟨l, k⟩ => ?_
  rw [if_pos l]
  exact k
theorem frz_rule {r : Ru} : frz h.length (h ++ [.live (.ins "Rule" ruK r.vs)]) 6 (.ref h.length) = some r.d := by
  have ce : cellAt (h ++ [Cl.live (.ins "Rule" ruK r.vs)]) h.length = some (.ins "Rule" ruK r.vs) := by
    unfold cellAt
    simp
  show (if h.length < h.length then some (D.ref h.length) else match cellAt (h ++ [Cl.live (.ins "Rule" ruK r.vs)]) h.length with
    | none => none
    | some (.lst xs) => (mapO (frz h.length (h ++ [Cl.live (.ins "Rule" ruK r.vs)]) 5) xs).map .lst
    | some (.ins c ks xs) => (mapO (frz h.length (h ++ [Cl.live (.ins "Rule" ruK r.vs)]) 5) xs).map (.ins c ks) | some (.dct ks xs) => (mapO (frz h.length (h ++ [Cl.live (.ins "Rule" ruK r.vs)]) 5) xs).map (.dct ks) | some (.tbl _ _) => none) = _
  rw [if_neg (Nat.lt_irrefl _), ce]
  have mo : mapO (frz h.length (h ++ [Cl.live (.ins "Rule" ruK r.vs)]) 5) r.vs = some r.vs := by
    refine mapO_same fun v hv => ?_
    have hv : v = .tup r.rd ∨ v = .int r.m ∨ v = .int r.l ∨ v = .lst (r.pl.map Dy.d) := by simpa [Ru.vs] using hv
    rcases hv with rfl | rfl | rfl | rfl
    · exact frz5 (und_strs _ _)
    · exact frz5 rfl
    · exact frz5 rfl
    · exact frz5 (und_days _ _)
  dsimp only
  rw [mo]; rfl
/-- Rule(rows ..) as what a def returns -/
theorem mkr_is {r : Ru} (o : r.ok) {a : DenA} {e : En} (k : (a e h).is fun xs h' => xs = r.rd ∧ h' = h) (hQ : Q r.d h) : (dMk "Rule" (arB true 1 r_Rule___init__) a e h).is fun d h' => ∃ d', frz h.length h' 6 d = some d' ∧ Q d' (h'.take h.length) := by
  have n6 := o.n6
  refine mk_is (k.mono fun xs h1 ⟨e1, e2⟩ => ?_)
  subst e1 e2
  show (arV 1 r_Rule___init__ (.ref h1.length :: r.rd) _).is _
  unfold arV
  rw [if_pos (by simp), if_pos (by rw [List.length_cons, Ru.len, show sizeLine = 16777216 from rfl]; omega)]
  show (r_Rule___init__ [.ref h1.length, .tup r.rd] _).is _
  have gt : (h1 ++ [Cl.live (.ins "Rule" [] [])])[h1.length]? = some (.live (.ins "Rule" [] [])) := by simp
  refine init_is o gt ⟨rfl, ?_⟩
  have es : (h1 ++ [Cl.live (.ins "Rule" [] [])]).set h1.length (.live (.ins "Rule" ruK r.vs)) = h1 ++ [.live (.ins "Rule" ruK r.vs)] := by
    rw [List.set_append_right _ _ (Nat.le_refl _), Nat.sub_self]; rfl
  rw [es]
  exact ⟨r.d, frz_rule, by rw [List.take_left]; exact hQ⟩
theorem byrows_is {r : Ru} (o : r.ok) (l4 : r.rd.length ≤ 4) (hQ : Q r.d h) : (r__law_by_rows [.lst r.rd] h).is Q := by
  have rl : r.rd.length = r.pl.length + 1 := Ru.len r
  have n1 := o.n1
  have len : ∀ h', fLen (.lst r.rd) h' = some (.int r.rd.length) := fun _ => rfl
  have ix : ∀ (i : Nat), i < r.rd.length → ∀ h', ixO (.lst r.rd) (.int i) h' = some (r.rd.getD i .non) := fun i hi h' => by
    show atI r.rd (i : Int) = _
    rw [Ev.atI_nat hi, List.getD_eq_getElem?_getD, List.getElem?_eq_getElem hi]; rfl
  have mk : ∀ {a : DenA} {e : En}, (a e h).is (fun xs h' => xs = r.rd ∧ h' = h) → (dMk "Rule" (arB true 1 r_Rule___init__) a e h).is fun d h' => ∃ d', frz h.length h' 6 d = some d' ∧ Q d' (h'.take h.length) := fun {a e} k => mkr_is o k hQ
  obtain ⟨rd, erd⟩ : ∃ rd, r.rd = rd := ⟨_, rfl⟩
  rw [erd] at len ix l4 rl mk ⊢
  have j0 : ∀ h', ixO (.lst rd) (.int 0) h' = some (rd.getD 0 .non) := ix 0 (by omega)
  have j1 : ∀ h', ixO (.lst rd) (.int 1) h' = some (rd.getD 1 .non) := ix 1 (by omega)
  refine run_is rfl (Nat.le_of_ble_eq_true rfl) ?_
  refine st fun K hk => ?_
  show (sIf _ _ _ [some (.lst rd)] h).is _ _
  rw [is_if, tCm_is]
  simp only [dB1_is, dVar_z, len, dC_is, cop_eq, eq_ii, Option.some.injEq, exists_eq_left']
  by_cases c2 : rd.length = 2
  · rw [decide_eq_true (show (rd.length : Int) = 2 by omega), if_pos rfl, is_seq, is_ret]
    refine mk ?_
    simp only [aCons_is, aNil_is, dIx_is, dVar_z, dC_is, j0, j1, Option.some.injEq, exists_eq_left']
    refine ⟨?_, by first | rfl | trivial⟩
    rcases rd with _ | ⟨a, _ | ⟨b, _ | ⟨c, ds⟩⟩⟩
    · cases c2
    · cases c2
    · rfl
    · rw [List.length_cons, List.length_cons, List.length_cons] at c2; omega
  rw [decide_eq_false (show ¬ (rd.length : Int) = 2 by omega), if_neg (by decide), is_pass]
  refine hk _ _ ?_
  clear hk K
  have j2 : ∀ h', ixO (.lst rd) (.int 2) h' = some (rd.getD 2 .non) := ix 2 (by omega)
  refine st fun K hk => ?_
  rw [is_if, tCm_is]
  simp only [dB1_is, dVar_z, len, dC_is, cop_eq, eq_ii, Option.some.injEq, exists_eq_left']
  by_cases c3 : rd.length = 3
  · rw [decide_eq_true (show (rd.length : Int) = 3 by omega), if_pos rfl, is_seq, is_ret]
    refine mk ?_
    simp only [aCons_is, aNil_is, dIx_is, dVar_z, dC_is, j0, j1, j2, Option.some.injEq, exists_eq_left']
    refine ⟨?_, by first | rfl | trivial⟩
    rcases rd with _ | ⟨a, _ | ⟨b, _ | ⟨c, _ | ⟨d, ds⟩⟩⟩⟩
    · cases c3
    · cases c3
    · cases c3
    · rfl
    · rw [List.length_cons, List.length_cons, List.length_cons, List.length_cons] at c3; omega
  rw [decide_eq_false (show ¬ (rd.length : Int) = 3 by omega), if_neg (by decide), is_pass]
  refine hk _ _ ?_
  clear hk K
  have j3 : ∀ h', ixO (.lst rd) (.int 3) h' = some (rd.getD 3 .non) := ix 3 (by omega)
  rw [is_seq, is_ret, dIf_is, tCm_is]
  simp only [dB1_is, dVar_z, len, dC_is, cop_eq, eq_ii, Option.some.injEq, exists_eq_left']
  rw [decide_eq_true (show (rd.length : Int) = 4 by omega), if_pos rfl]
  refine mk ?_
  simp only [aCons_is, aNil_is, dIx_is, dVar_z, dC_is, j0, j1, j2, j3, Option.some.injEq, exists_eq_left']
  refine ⟨?_, by first | rfl | trivial⟩
  rcases rd with _ | ⟨a, _ | ⟨b, _ | ⟨c, _ | ⟨d, _ | ⟨e, ds⟩⟩⟩⟩⟩
  · exact absurd (show (0 : Nat) = r.pl.length + 1 from rl) (by omega)
  · exact absurd (show (1 : Nat) = r.pl.length + 1 from rl) (by omega)
  · exact absurd rfl c2
  · exact absurd rfl c3
  · rfl
  · rw [List.length_cons, List.length_cons, List.length_cons, List.length_cons, List.length_cons] at l4; omega
/-! == -/
theorem eq2_is {r r2 : Ru} (o : r.ok) (o2 : r2.ok) (hQ : Q (.bl (r.rows == r2.rows)) h) : (r_Rule___eq__ [r.d, r2.d] h).is Q := by
  have is : fIsO ["Rule"] "Rule" r2.d h = some (.bl true) := by kernel_rfl
  have es : eqS (.tup r.rd) (.tup r2.rd) h = some (r.rows == r2.rows) := eq_tups (Ru.asc o) (Ru.asc o2) h
  refine run_is rfl (Nat.le_of_ble_eq_true rfl) ?_
  show (sSeq _ _ [some r.d, some r2.d] h).is _ _
  rw [is_seq, is_ret]
  refine dAn_is ?_
  simp only [dB1_is, dVar_z, dVar_s, is, Option.some.injEq, exists_eq_left', asB]
  simp only [if_true]
  rw [dOf_is, tCm_is, att_is]
  simp only [dVar_z, dVar_s, at_rd, Option.some.injEq, exists_eq_left']
  refine prop_is ?_
  simp only [dVar_z, dVar_s]
  refine ⟨ruK, r2.vs, ins_d, prows_is ?_⟩
  simp only [cop_eq, es, Option.some.injEq, exists_eq_left']
  exact fz rfl hQ
/-- a value of another class -/
def Nz (z : D) : Prop := ∀ h, insAt h z = none ∧ (∃ t, tyD z h = some t) ∧ fIsO ["Rule"] "Rule" z h = some (.bl false)
theorem eqz_is {r : Ru} {z : D} (nz : Nz z) (hQ : Q (.bl false) h) : (r_Rule___eq__ [r.d, z] h).is Q := by
  refine run_is rfl (Nat.le_of_ble_eq_true rfl) ?_
  show (sSeq _ _ [some r.d, some z] h).is _ _
  rw [is_seq, is_ret]
  refine dAn_is ?_
  simp only [dB1_is, dVar_z, dVar_s, (nz h).2.2, Option.some.injEq, exists_eq_left', asB, Bool.false_eq_true, if_false]
  exact fz rfl hQ
theorem bools_pl {a b c : Bool} : Pl 1 (.lst [.bl a, .bl b, .bl c]) = true := rfl
theorem right_is (hx : Spr x) (e : h[n]? = some x) (hQ : ∀ y, Spr y → Q (.bl true) (h.set n y)) : (r__law_right [.ref n] h).is Q := by
  have hn : n < h.length := (List.getElem?_eq_some_iff.mp e).1
  refine run_is rfl (Nat.le_of_ble_eq_true rfl) ?_
  refine st fun k hk => ?_
  show (sPar _ _ [some (.ref n), none, none, none, none, none, none] h).is _ _
  rw [is_par, aCons_is, dCall_is]
  simp only [aCons_is, aNil_is, dVar_z]
  refine ⟨rfl, lrows_is hx e fun r y sy o _ _ _ p3 => ?_⟩
  rw [dCall_is]
  simp only [aCons_is, aNil_is, dVar_z]
  refine ⟨rfl, lrows_is sy (set_at e) fun r2 y sy o2 _ _ _ p32 => ?_⟩
  rw [List.set_set]
  refine ⟨rfl, hk _ _ ?_⟩
  clear hk k
  simp only [setsE, List.set_cons_succ, List.set_cons_zero]
  have l4 : r.rd.length ≤ 4 := by rw [Ru.len]; omega
  have l42 : r2.rd.length ≤ 4 := by rw [Ru.len]; omega
  have fin : ∃ d', frz h.length (h.set n y) 6 (.bl true) = some d' ∧ Q d' ((h.set n y).take h.length) := ⟨_, rfl, by rw [take_set]; exact hQ y sy⟩
  generalize h.set n y = H at *
  have m1 : ∀ {h : Hs} {Q : D → Hs → Prop}, Q r.d h → (r__law_by_rows [.lst r.rd] h).is Q := fun q => byrows_is o l4 q
  have m2 : ∀ {h : Hs} {Q : D → Hs → Prop}, Q r2.d h → (r__law_by_rows [.lst r2.rd] h).is Q := fun q => byrows_is o2 l42 q
  have s1 : ∀ {h : Hs} {Q : D → Hs → Prop}, Q (.bl true) h → (r__law_shows [r.d, .lst r.rd] h).is Q := fun q => shows_is o q
  have s2 : ∀ {h : Hs} {Q : D → Hs → Prop}, Q (.bl true) h → (r__law_shows [r2.d, .lst r2.rd] h).is Q := fun q => shows_is o2 q
  have q12 : ∀ {h : Hs} {Q : D → Hs → Prop}, Q (.bl (r.rows == r2.rows)) h → (r_Rule___eq__ [r.d, r2.d] h).is Q := fun q => eq2_is o o2 q
  have q11 : ∀ {h : Hs} {Q : D → Hs → Prop}, Q (.bl true) h → (r_Rule___eq__ [r.d, r.d] h).is Q := fun q => eq2_is o o (by rw [beq_self_eq_true]; exact q)
  have qz : ∀ {z : D} {h : Hs} {Q : D → Hs → Prop}, Nz z → Q (.bl false) h → (r_Rule___eq__ [r.d, z] h).is Q := fun nz q => eqz_is nz q
  have p1 : ∀ {h : Hs} {Q : D → Hs → Prop}, Q (.str (rtx r)) h → (r_Rule_text [r.d] h).is Q := fun q => ptext_is o q
  have p4 : ∀ {h : Hs} {Q : D → Hs → Prop}, Q (.tup r.rd) h → (r_Rule_rows [r.d] h).is Q := fun q => prows_is q
  have p5 : ∀ {h : Hs} {Q : D → Hs → Prop}, Q (.int r.m) h → (r_Rule_plates [r.d] h).is Q := fun q => pplates_is q
  have p7 : ∀ {h : Hs} {Q : D → Hs → Prop}, Q (.int r.pl.length) h → (r_Rule___len__ [r.d] h).is Q := fun q => plen_is q
  have rd_ : ∀ {h : Hs} {Q : D → Hs → Prop}, Q r.d h → (r_Rule_read [.cls "Rule", .str (rtx r)] h).is Q := fun q => read_is o q
  have jo : ∀ h', joinD h' (.str "\n") (.lst r.rd) = some (.str (rtx r)) := fun h' => jo_rows o rfl
  have i1 : ∀ h', insAt h' r.d = some (("Rule" : Str), ruK, r.vs) := fun h' => ins_d
  have i2 : ∀ h', insAt h' r2.d = some (("Rule" : Str), ruK, r2.vs) := fun h' => ins_d
  have es : ∀ h', eqS (.lst r.rd) (.lst r2.rd) h' = some (r.rows == r2.rows) := fun h' => eq_strs (Ru.asc o) (Ru.asc o2) h'
  have pl : isLn (.int ((r.pl.length : Nat) : Int)) = true := by
    have : ∀ k < 7, isLn (.int ((k : Nat) : Int)) = true := by decide +kernel
    exact this _ (by omega)
  generalize rtx r = T at *
  generalize r.d = d1 at *
  generalize r2.d = d2 at *
  generalize (r.rows == r2.rows) = b at *
  generalize r.vs = v1 at *
  generalize r2.vs = v2 at *
  generalize r.rd = rd at *
  generalize r2.rd = rd2 at *
  generalize r.pl.length = pn at *
  generalize r.m = m at *
  have lk : List.lookup ("Rule" : Str) [(("Rule" : Str), 2, r_Rule___eq__)] = some (2, r_Rule___eq__) := by rw [List.lookup_cons, beq_self_eq_true]
  refine st fun k hk => ?_
  rw [is_asg, dTup_is, aCons_is, dCall_is]
  simp only [aCons_is, aNil_is, dVar_z, dVar_s]
  refine ⟨rfl, m1 ?_⟩
  rw [dCall_is]
  simp only [aCons_is, aNil_is, dVar_z, dVar_s]
  refine ⟨rfl, m2 ⟨(by decide +kernel : (2 : Nat) ≤ sizeLine), ?_⟩⟩
  rw [gTp_is (k := 2) rfl]
  simp only [gCons_is, gNil_is, gNm_is]
  refine ⟨Nat.le_of_ble_eq_true rfl, Nat.le_of_ble_eq_true rfl, hk _ _ ?_⟩
  clear hk k
  simp only [List.set_cons_succ, List.set_cons_zero]
  -- they show
  refine st fun k hk => no_is ?_
  rw [tOr_is, tNt_is, tTru_is, dCall_is]
  simp only [aCons_is, aNil_is, dVar_z, dVar_s]
  refine ⟨rfl, s1 ⟨true, rfl, ?_⟩⟩
  rw [Bool.not_true, if_neg (by decide), tNt_is, tTru_is, dCall_is]
  simp only [aCons_is, aNil_is, dVar_z, dVar_s]
  refine ⟨rfl, s2 ⟨true, rfl, rfl, hk _ _ ?_⟩⟩
  clear hk k
  -- the same
  refine st fun k hk => ?_
  rw [is_asg, dOf_is]
  refine eqN_is ?_
  simp only [dVar_z, dVar_s, cop_eq, es, Option.some.injEq, exists_eq_left']
  refine ⟨rfl, ?_⟩
  rw [gNm_is]
  refine ⟨Nat.le_of_ble_eq_true rfl, hk _ _ ?_⟩
  clear hk k
  simp only [List.set_cons_succ, List.set_cons_zero]
  refine st fun k hk => no_is ?_
  refine neN_is ?_
  rw [dLst_is, aCons_is, dOf_is]
  refine eqI_is lk ?_
  simp only [dVar_z, dVar_s]
  refine ⟨_, _, _, _, i1 _, i2 _, q12 ⟨_, rfl, ?_⟩⟩
  rw [aCons_is, dOf_is]
  refine neI_is lk ?_
  simp only [dVar_z, dVar_s]
  refine ⟨_, _, _, _, i1 _, i2 _, q12 ⟨_, rfl, ?_⟩⟩
  rw [aCons_is, dOf_is]
  refine eqI_is lk ?_
  simp only [dVar_z, dVar_s]
  refine cmK_is ?_
  rw [aCons_is, tm_is, dC_is]
  refine ⟨_, rfl, ?_⟩
  simp only [dVar_z, dVar_s]
  refine ⟨_, jo _, ?_⟩
  rw [aNil_is]
  refine ⟨rfl, ?_⟩
  show (ar 2 r_Rule_read [.cls "Rule", .str T] _).is _
  refine ar_is rfl (rd_ ?_)
  refine ⟨_, _, _, _, i1 _, i1 _, q11 ⟨_, rfl, ?_⟩⟩
  rw [aNil_is]
  refine ⟨(by decide +kernel : (3 : Nat) ≤ sizeLine), ?_⟩
  simp only [dLst_is, aCons_is, aNil_is, dNt_is, dVar_z, dVar_s, dC_is, tru_b, Option.some.injEq, exists_eq_left']
  refine ⟨(by decide +kernel : (3 : Nat) ≤ sizeLine), rfl, false, ?_, rfl, hk _ _ ?_⟩
  · rw [cop_ne, eqS_same (n := 1) (by decide) bools_pl]; rfl
  clear hk k
  -- and others
  rw [is_seq, is_ret, dNt_is, dB1_is]
  refine comp_is (val_is ?_)
  rw [dLst_is, aCons_is, dC_is, aCons_is]
  refine prop_is ?_
  simp only [dVar_z, dVar_s]
  refine ⟨_, _, i1 _, p1 ?_⟩
  rw [aCons_is]
  refine prop_is ?_
  simp only [dVar_z, dVar_s]
  refine ⟨_, _, i1 _, p4 ?_⟩
  rw [aCons_is]
  refine prop_is ?_
  simp only [dVar_z, dVar_s]
  refine ⟨_, _, i1 _, p5 ?_⟩
  rw [aCons_is]
  refine spI_is ?_
  simp only [dVar_z, dVar_s]
  refine ⟨_, _, i1 _, by first | rfl | trivial, p7 ⟨pl, ?_⟩⟩
  simp only [aCons_is, aNil_is, dVar_z, dVar_s]
  refine ⟨(by decide +kernel : (6 : Nat) ≤ sizeLine), _, rfl, rfl, (by decide +kernel : (6 : Nat) ≤ sizeLine), ?_⟩
  have six : ∀ z ∈ [D.non, .str T, .tup rd, .int m, .int pn, .lst rd], Nz z := fun z hz => by
    simp only [List.mem_cons, List.not_mem_nil, or_false] at hz
    rcases hz with rfl | rfl | rfl | rfl | rfl | rfl <;> exact fun h => ⟨rfl, ⟨_, rfl⟩, rfl⟩
  have em : ∀ l : List D, l = l.map fun z => z := fun l => by simp
  show (compL _ _ _ _ [D.non, .str T, .tup rd, .int m, .int pn, .lst rd] _).is _
  rw [em [D.non, .str T, .tup rd, .int m, .int pn, .lst rd]]
  refine (compF_is (fun z : D => z) (fun _ => D.bl false) (fun z hz => ⟨[some (.ref n), some (.bl b), some (.lst rd), some (.lst rd2), some d1, some d2, some z], rfl, ?_⟩)).mono fun zs h' ⟨eh, ez⟩ => ?_
  · rw [dOf_is]
    refine eqO_is lk ?_
    simp only [dVar_z, dVar_s]
    obtain ⟨t, ht⟩ := (six z hz H).2.1
    exact ⟨_, _, t, i1 _, (six z hz H).1, ht, qz (six z hz) ⟨false, rfl, rfl, rfl⟩⟩
  subst eh ez
  refine ⟨.bl false, rfl, false, rfl, ?_⟩
  exact fin

end
-- SPLIT
section
variable {n : Nat} {h : Hs} {x : Cl} {Q : D → Hs → Prop}
theorem spring_is {ns : List Int} {k : Nat} (hl : ns.length ≤ 63) (hQ : ∀ y, Spr y → Q (.ref h.length) (h ++ [y])) : (r__law_spring [.scr (ns.map D.int), .int k] h).is Q := by
  refine run_keep rfl (Nat.le_of_ble_eq_true rfl) (st fun K hk => ?_)
  show (sAsg _ _ [some (.scr (ns.map D.int)), some (.int k), none, none, none] h).is _ _
  have len : fLen (.scr (ns.map D.int)) h = some (.int ns.length) := by
    show some (D.int (ns.map D.int).length) = _
    rw [List.length_map]
  have key : ∀ c : Int, K [some (.scr (ns.map D.int)), some (.int k), some (.int c), none, none] h := by
    refine fun c => hk _ _ (st fun K hk => ?_)
    simp only [dC_is, dVar_z, dVar_s, dBin_is, mul_ii, add_ii, is_asg, gNm_is]
    refine ⟨mulOk_l (by decide +kernel), Nat.le_of_ble_eq_true rfl, hk _ _ (st fun K hk => for_is (val_is ?_))⟩
    simp only [dC_is, dVar_z, dVar_s, dBin_is, dSl_is, oNo_is, oC_is, dLst_is, aCons_is, aNil_is]
    have cl := cut_len (xs := ns.map D.int) (lo := none) (hi := some 8)
    rw [List.length_map] at cl
    refine ⟨_, rfl, show 1 ≤ sizeLine by decide +kernel, ?_⟩
    rw [add_ll]
    refine ⟨by rw [show sizeLine = 16777216 from rfl]; simp only [List.length_cons, List.length_nil]; omega, _, rfl, rfl, ?_⟩
    refine (forI_is (fun e1 h1 => h = h1 ∧ ∃ (m : Int) (w : Option D), e1 = [some (.scr (ns.map D.int)), some (.int k), some (.int c), some (.int m), w]) ?_ ⟨rfl, _, _, rfl⟩).mono ?_ fun d h z => z
    · rintro d hd _ _ ⟨rfl, m, w, rfl⟩
      obtain ⟨i, rfl⟩ : ∃ i : Int, d = .int i := by
        rcases List.mem_append.mp hd with q | q
        · obtain ⟨i, _, z⟩ := List.mem_map.mp (cut_mem q)
          exact ⟨i, z.symm⟩
        · exact ⟨c, List.mem_singleton.mp q⟩
      simp only [dC_is, dVar_z, dVar_s, aNil_is, aCons_is, dTup_is, dLst_is, dBin_is, dB1_is, dB2_is, dIx_is, dCall_is, dCallK_is, tCm_is, tChn_is, dOf_is, tTru_is, tNt_is, tAn_is, tOr_is, dIf_is, dNt_is, add_ii, sub_ii, mul_ii, div_ii, mod_ii, pow_ii, lt_ii, le_ii, gt_ii, ge_ii, cop_eq, cop_ne, tru_b, int_i, int_b, abs_i, max_ii, min_ii, eq_ii, eq_ss, eq_ll, eq_tt, is_asg, is_if, is_par, is_ret, is_expr, gNm_is, is_pass, is_seq, setsE, permL, List.set_cons_succ, List.set_cons_zero, List.length_cons, List.length_nil, true_and, and_true, Option.some.injEq, exists_eq_left', exists_eq_left, Nat.zero_add, Nat.reduceAdd, Nat.reduceLT, List.set_set, Option.map_some, ite_true, ite_false, Bool.false_eq_true, if_true, if_false]
      exact ⟨mulOk_r (by decide +kernel), mulOk_l (by decide +kernel), by decide +kernel, _, _, rfl⟩
    · rintro _ _ ⟨rfl, m, w, rfl⟩
      refine hk _ _ ?_
      simp only [is_seq, is_ret, dNew_is, nLst_is, aCons_is, aNil_is, dVar_z, dVar_s, dC_is, dIf_is, tOr_is, tCm_is, lt_ii, ge_ii, dBin_is, pow_ii, dB1_is, abs_i, Option.some.injEq, exists_eq_left']
      have fin : ∀ z : Int, [D.int z, D.int m, D.int 0].length ≤ sizeLine ∧ D.undAll h.length [D.int z, D.int m, D.int 0] = true ∧ ∃ m_1 xs ys, liveAt (h ++ [Cl.live (O.lst [D.int z, D.int m, D.int 0])]) (D.ref h.length) = some (m_1, xs) ∧ h.length ≤ m_1 ∧ mapO (frz h.length (h ++ [Cl.live (O.lst [D.int z, D.int m, D.int 0])]) 6) xs = some ys ∧ Q (D.ref h.length) (List.take h.length (h ++ [Cl.live (O.lst [D.int z, D.int m, D.int 0])]) ++ [Cl.live (O.lst ys)]) := by
        intro z
        refine ⟨show 3 ≤ sizeLine by decide +kernel, rfl, h.length, [.int z, .int m, .int 0], [.int z, .int m, .int 0], ?_, Nat.le_refl _, rfl, ?_⟩
        · simp [liveAt]
        · rw [List.take_left]
          exact hQ _ ⟨_, _, _, rfl⟩
      split
      · split
        · exact fin _
        · exact fin _
      · refine ⟨by decide +kernel, ?_⟩
        split
        · exact fin _
        · exact fin _
  simp only [is_asg, dIf_is, tCm_is, dVar_z, dVar_s, dB1_is, dIx_is, dBin_is, dC_is, mul_ii, add_ii, len, gNm_is, Option.some.injEq, exists_eq_left', lt_ii]
  split
  · rename_i z
    have z : k < ns.length := by simpa using z
    refine ⟨.int ns[k], ?_, Nat.le_of_ble_eq_true rfl, key _⟩
    show atI (ns.map D.int) (k : Int) = _
    rw [atI_nat (by rw [List.length_map]; exact z), List.getElem_map]
  · exact ⟨mulOk_l (by decide +kernel), Nat.le_of_ble_eq_true rfl, key _⟩
theorem law_is {ns : List Int} (hl : ns.length ≤ 63) : ∃ h', r_law [.scr (ns.map D.int)] [] = .ok (.bl true) h' := by
  have z : (r_law [.scr (ns.map D.int)] []).is fun d h => d = .bl true := by
    refine run_is rfl (Nat.le_of_ble_eq_true rfl) ?_
    have len : fLen (.scr (ns.map D.int)) [] = some (.int ns.length) := by
      show some (D.int (ns.map D.int).length) = _
      rw [List.length_map]
    have len : ∀ h, fLen (.scr (ns.map D.int)) h = some (.int ns.length) := fun h => by
      show some (D.int (ns.map D.int).length) = _
      rw [List.length_map]
    obtain ⟨S, eS⟩ : ∃ S : D, .scr (ns.map D.int) = S := ⟨_, rfl⟩
    rw [eS]
    show (d_law [some S, none, none] []).is _ _
    refine st fun K hk => nx_is (e' := [some S, some (.lst [.str "plates 10 away 2", .str "take 0 to 6 back under 9 turned", .str "take 6 to 6 back top kept", .str "cut 9", .str "turn", .str "rest", .str "cut 1"]), none]) (h' := []) (by kernel_rfl) (hk _ _ (st fun K hk => ?_))
    refine nx_is (e' := [some S, some (.lst [.str "plates 10 away 2", .str "take 0 to 6 back under 9 turned", .str "take 6 to 6 back top kept", .str "cut 9", .str "turn", .str "rest", .str "cut 1"]), none]) (h' := [.live (.ins "Rule" ruK (Ru.mk 2 0 [.rest]).vs), .live (.ins "Rule" ruK (Ru.mk 2 1 [.rest]).vs)]) (by kernel_rfl) (hk _ _ (st fun K hk => ?_))
    rw [← eS]
    rw [is_ret, dB1_is]
    refine comp_is (r1_is ?_)
    simp only [dC_is, dVar_z, dVar_s, dB2_is, dB1_is, len, max_ii, min_ii, Option.some.injEq, exists_eq_left']
    refine ⟨_, rfl, ?_, trivial, ?_, ?_⟩
    · unfold rngOk; simp; omega
    · rw [show sizeLine = 16777216 from rfl]; unfold rangeL; simp; omega
    refine (compL_is (fun xs _ => ∀ d ∈ xs, ∃ k : Nat, d = .int k) (fun d => d = .bl true) ?_ ?_).mono fun ys h ⟨m, _⟩ => ⟨_, all_true m, _, rfl, rfl⟩
    · rintro d xs h1 m
      obtain ⟨k, rfl⟩ := m d (List.mem_cons_self ..)
      refine ⟨_, rfl, ?_⟩
      show (tYs [some (.scr (ns.map D.int)), _, some (.int k)] h1).is _
      rw [tYs_is, if_pos rfl]
      show (dCall _ _ _ [some (.scr (ns.map D.int)), _, some (.int k)] h1).is _
      simp only [dCall_is, aCons_is, aNil_is, dVar_z, dVar_s]
      refine ⟨rfl, spring_is hl fun y sy => ⟨rfl, ?_⟩⟩
      refine right_is sy (by simp) fun y sy => ⟨rfl, fun d hd => m d (List.mem_cons_of_mem _ hd)⟩
    · intro d hd
      obtain ⟨i, rfl, i0, i1⟩ := range_mem hd
      exact ⟨i.toNat, by rw [Int.toNat_of_nonneg i0]⟩
  obtain ⟨a, h', q, rfl⟩ := z.ex
  exact ⟨h', q⟩

end
theorem pure_law : ∀ ns : List Int, ns.length ≤ 63 → (∀ z ∈ ns, Builtin.Int.intBits z ≤ 1048576) → ∃ h', r_law [.scr (ns.map D.int)] [] = .ok (.bl true) h' := fun _ hl _ => law_is hl
end G
open PySem PySem.W PySem.Calls PyProof.Rows
set_option maxHeartbeats 0 in
theorem PySem.Challenge.cw_pileworn_k02_rules_made_holds : PySem.Challenge.rw_pileworn_k02_rules_made.Holds := by
  w_on; o_law
  refine HandSHeadRun.head_any (r := G.R) (q := view G.R.prog G.keepAt) (H := G.hk) (ob := G.ob) (M := 20000) (loose := G.loose) (d := HandSHeadRun.topDef G.R.prog G.lawAt) (kwd := []) G.ob_eq (by kernel_rfl) (fun s => by kernel_rfl) G.run
    (by kernel_rfl) (by kernel_rfl) (by kernel_rfl) (by rfl) (by first | assumption | decide +kernel) (by decide +kernel) ⟨rfl, rfl, rfl, rfl, rfl, by decide +kernel⟩ ?hw ?hc
  case hw => w_witness2
  case hc =>
    refine Ev.walkG (l := PySem.Challenge.rw_pileworn_k02_rules_made) (n := 63) (k := 12) (x := "_law_script") rfl (by decide) (by kernel_rfl) ⟨rfl, by decide, by decide⟩ ?F
    intro w mg fa h Y G0 hmg0
    obtain ⟨K, KX, c⟩ := Y
    have hmg : mg ("law" : PySem.Str) = some (.ref fa) := by
      have e : (HandSHeadRun.topDef G.R.prog G.lawAt).name = ("law" : PySem.Str) := by kernel_rfl
      rw [← e]; exact hmg0
    letI : Ev.TheW := ⟨w⟩
    obtain ⟨fd, hb, hF⟩ := G.facts (P := PySem.Challenge.rw_pileworn_k02_rules_made.prog) (w := w) rfl KX G0 hmg c
    exact ⟨K, fd, G.r_law, KX, hb, hF, G.pure_law⟩
