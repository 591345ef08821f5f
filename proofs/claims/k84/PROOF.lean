import PyProof.Rows.All
import Wide.All
import OpenK.AllK
import Wide.FinOn
import HandS.ForMost
import HandS.Wide
import HandS.Flow
import HandS.IsInst
import HandS.TupAny
import HandS.HeadWalk
import HandS.MakeKwOnly
import HandS.Style
import HandS.Defaults
import HandS.Head0
import HandS.Head1
import HandS.Head2
import HandS.HeadEnd
import HandS.HeadHook1
import HandS.HeadHook2
import HandS.HeadHook3
import HandS.HeadHook4
import PySem.Challenge.RW_faultward_k84_whole_calls_through_gates
set_option Elab.async false
set_option linter.all false
set_option maxRecDepth 100000
set_option maxHeartbeats 0
/-! Nv: a small evaluator for the programs' own sublanguage, over values without addresses. -/
namespace Nv
open PySem PySem.Spec PyProof.Rows L2

mutual
/-- a value: data by value; ref n: the n-th cell of the store; new o: an object just made, that nothing else knows -/
inductive D where
  | non | bl (b : Bool) | int (i : Int) | str (s : Str) | tup (xs : List D) | ref (n : Nat) | new (o : O)
/-- a cell: a list; a list that is only read; a dict; an instance of the c-th class -/
inductive O where
  | lst (xs : List D) | frz (xs : List D) | dct (kvs : List (D × D)) | ins (c : Nat) (fs : List (Nat × D))
end
abbrev Store := List O
abbrev AEnv := List (Option D)
/-- an exception: its class (by number), its field -/
structure Exn where
  cls : Nat
  fld : Option D

inductive Rs (α : Type) where
  | ok (a : α) (S : Store)
  | ex (x : Exn) (S : Store)
  | stuck
def Rs.bind {α β : Type} : Rs α → (α → Store → Rs β) → Rs β
  | .ok a S, f => f a S
  | .ex x S, _ => .ex x S
  | .stuck, _ => .stuck

/-! ### refs below a number -/
mutual
def lowD (n : Nat) : D → Bool
  | .ref k => decide (k < n)
  | .tup xs => lowDs n xs
  | .new o => lowO n o
  | _ => true
def lowDs (n : Nat) : List D → Bool
  | [] => true
  | x :: xs => lowD n x && lowDs n xs
def lowO (n : Nat) : O → Bool
  | .lst xs => lowDs n xs
  | .frz xs => lowDs n xs
  | .dct kvs => lowKs n kvs
  | .ins _ fs => lowFs n fs
def lowKs (n : Nat) : List (D × D) → Bool
  | [] => true
  | (k, v) :: r => lowD n k && lowD n v && lowKs n r
def lowFs (n : Nat) : List (Nat × D) → Bool
  | [] => true
  | (_, v) :: r => lowD n v && lowFs n r
end
/-! ### made objects become cells -/
mutual
def mat : D → Store → D × Store
  | .tup xs, S => let (ys, S1) := mats xs S; (.tup ys, S1)
  | .new o, S => let (p, S1) := matO o S; (.ref S1.length, S1 ++ [p])
  | d, S => (d, S)
def mats : List D → Store → List D × Store
  | [], S => ([], S)
  | x :: xs, S => let (y, S1) := mat x S; let (ys, S2) := mats xs S1; (y :: ys, S2)
def matO : O → Store → O × Store
  | .lst xs, S => let (ys, S1) := mats xs S; (.lst ys, S1)
  | .frz xs, S => let (ys, S1) := mats xs S; (.frz ys, S1)
  | .dct kvs, S => let (r, S1) := matKs kvs S; (.dct r, S1)
  | .ins c fs, S => let (r, S1) := matFs fs S; (.ins c r, S1)
def matKs : List (D × D) → Store → List (D × D) × Store
  | [], S => ([], S)
  | (k, v) :: r, S => let (w, S1) := mat v S; let (q, S2) := matKs r S1; ((k, w) :: q, S2)
def matFs : List (Nat × D) → Store → List (Nat × D) × Store
  | [], S => ([], S)
  | (k, v) :: r, S => let (w, S1) := mat v S; let (q, S2) := matFs r S1; ((k, w) :: q, S2)
end

/-! ### what represents what -/
structure Cxt where
  K : PySem.W.Frag
  CA : Nat → Addr
  nc : Nat
  sym : Nat → Str

inductive RepK : D → Key → Prop
  | int (i : Int) : RepK (.int i) (.inl i)
  | str (s : Str) : RepK (.str s) (.inr s)
mutual
inductive Rep (C : Cxt) (H : Hp) (L : List Addr) : D → V → List Addr → Prop
  | non : Rep C H L .non .non []
  | bl (b : Bool) : Rep C H L (.bl b) (.bl b) []
  | int (i : Int) : Rep C H L (.int i) (.int i) []
  | str (s : Str) : Rep C H L (.str s) (.str s) []
  | tup {xs : List D} {a : Addr} {vs : List V} {F : List Addr} : SqT C.K H a vs → Reps C H L xs vs F → Rep C H L (.tup xs) (.ref a) F
  | ref {n : Nat} {a : Addr} : L[n]? = some a → Rep C H L (.ref n) (.ref a) []
  | new {o : O} {a : Addr} {ho : HO} {F : List Addr} : H a = some ho → RepO C H L o ho F → Rep C H L (.new o) (.ref a) (a :: F)
inductive Reps (C : Cxt) (H : Hp) (L : List Addr) : List D → List V → List Addr → Prop
  | nil : Reps C H L [] [] []
  | cons {x : D} {v : V} {F : List Addr} {xs : List D} {vs : List V} {G : List Addr} : Rep C H L x v F → Reps C H L xs vs G → Reps C H L (x :: xs) (v :: vs) (F ++ G)
inductive RepKs (C : Cxt) (H : Hp) (L : List Addr) : List (D × D) → List (Key × V) → List Addr → Prop
  | nil : RepKs C H L [] [] []
  | cons {k : D} {q : Key} {x : D} {v : V} {F : List Addr} {r : List (D × D)} {s : List (Key × V)} {G : List Addr} : RepK k q → Rep C H L x v F → RepKs C H L r s G → RepKs C H L ((k, x) :: r) ((q, v) :: s) (F ++ G)
inductive RepFs (C : Cxt) (H : Hp) (L : List Addr) : List (Nat × D) → List (Str × V) → List Addr → Prop
  | nil : RepFs C H L [] [] []
  | cons {f : Nat} {x : D} {v : V} {F : List Addr} {r : List (Nat × D)} {s : List (Str × V)} {G : List Addr} : Rep C H L x v F → RepFs C H L r s G → RepFs C H L ((f, x) :: r) ((C.sym f, v) :: s) (F ++ G)
inductive RepO (C : Cxt) (H : Hp) (L : List Addr) : O → HO → List Addr → Prop
  | lst {xs : List D} {vs : List V} {F : List Addr} : Reps C H L xs vs F → RepO C H L (.lst xs) (.lst vs) F
  | dct {r : List (D × D)} {s : List (Key × V)} {F : List Addr} : RepKs C H L r s F → RepO C H L (.dct r) (.dK s) F
  | ins {c : Nat} {dx : Addr} {r : List (Nat × D)} {s : List (Str × V)} {F : List Addr} : c < C.nc → RepFs C H L r s F → RepO C H L (.ins c r) (.ins (C.CA c) dx s) F
end
/-- a cell stands at a -/
def Cell (C : Cxt) (H : Hp) (L : List Addr) (a : Addr) : O → Prop
  | .frz xs => ∃ ob vs, H a = some (.frz ob (.lst vs)) ∧ Reps C H L xs vs []
  | o => ∃ ho, H a = some ho ∧ RepO C H L o ho []
structure SimS (C : Cxt) (H : Hp) (L : List Addr) (S : Store) : Prop where
  len : L.length = S.length
  nd : L.Nodup
  cell : ∀ (n : Nat) (o : O) (a : Addr), S[n]? = some o → L[n]? = some a → Cell C H L a o
def SimE (C : Cxt) (H : Hp) (L : List Addr) (ρ : AEnv) (σ : L2.St) : Prop :=
  ρ.length ≤ σ.length ∧ ∀ (i : Nat) (d : D), ρ[i]? = some (some d) → ∃ v, σ[i]? = some (some v) ∧ Rep C H L d v []
/-- from one heap to a later one: L' has more cells at the end, new ones; what is no cell stays -/
structure Ext (H : Hp) (L : List Addr) (H' : Hp) (L' : List Addr) : Prop where
  pre : ∃ M, L' = L ++ M ∧ ∀ a ∈ M, H a = none
  frame : ∀ a o, a ∉ L → H a = some o → H' a = some o
  tups : ∀ b xs, H b = some (.tup xs) → H' b = some (.tup xs)
  frzs : ∀ b o u, H b = some (.frz o u) → H' b = some (.frz o u)
  dom : ∀ a, H' a = none → H a = none

theorem Ext.refl (H : Hp) (L : List Addr) : Ext H L H L := ⟨⟨[], by simp, by simp⟩, fun _ _ _ h => h, fun _ _ h => h, fun _ _ _ h => h, fun _ h => h⟩
theorem Ext.trans {H H1 H2 : Hp} {L L1 L2 : List Addr} (a : Ext H L H1 L1) (b : Ext H1 L1 H2 L2) : Ext H L H2 L2 := by
  obtain ⟨M1, e1, n1⟩ := a.pre
  obtain ⟨M2, e2, n2⟩ := b.pre
  refine ⟨⟨M1 ++ M2, by rw [e2, e1, List.append_assoc], fun x hx => ?_⟩, fun x o hx h => ?_, fun x xs h => b.tups x xs (a.tups x xs h), fun x o u h => b.frzs x o u (a.frzs x o u h), fun x h => a.dom x (b.dom x h)⟩
  · rcases List.mem_append.mp hx with h | h
    · exact n1 x h
    · exact a.dom x (n2 x h)
  · refine b.frame x o ?_ (a.frame x o hx h)
    rw [e1]
    intro hm
    rcases List.mem_append.mp hm with q | q
    · exact hx q
    · rw [n1 x q] at h; cases h

theorem SqT.ext {K : PySem.W.Frag} {H H' : Hp} {a : Addr} {vs : List V} (ht : ∀ b xs, H b = some (.tup xs) → H' b = some (.tup xs)) (hf : ∀ b o u, H b = some (.frz o u) → H' b = some (.frz o u)) (h : SqT K H a vs) : SqT K H' a vs := by
  rcases h with (h | ⟨o, h⟩) | h
  · exact .inl (.inl (ht _ _ h))
  · exact .inl (.inr ⟨o, hf _ _ _ h⟩)
  · exact .inr h

/-- what carries a representation over -/
structure Car (H : Hp) (L : List Addr) (H' : Hp) (L' : List Addr) (F : List Addr) : Prop where
  tups : ∀ b xs, H b = some (.tup xs) → H' b = some (.tup xs)
  frzs : ∀ b o u, H b = some (.frz o u) → H' b = some (.frz o u)
  pre : ∀ (n : Nat) (a : Addr), L[n]? = some a → L'[n]? = some a
  keep : ∀ a ∈ F, ∀ o, H a = some o → H' a = some o
theorem Car.sub {H H' : Hp} {L L' F G : List Addr} (c : Car H L H' L' F) (h : ∀ a ∈ G, a ∈ F) : Car H L H' L' G := ⟨c.tups, c.frzs, c.pre, fun a ha => c.keep a (h a ha)⟩
mutual
theorem Rep.car {C : Cxt} {H H' : Hp} {L L' : List Addr} : ∀ {d : D} {v : V} {F : List Addr}, Rep C H L d v F → Car H L H' L' F → Rep C H' L' d v F
  | _, _, _, .non, _ => .non
  | _, _, _, .bl b, _ => .bl b
  | _, _, _, .int i, _ => .int i
  | _, _, _, .str s, _ => .str s
  | _, _, _, .tup h r, c => .tup (SqT.ext c.tups c.frzs h) (Reps.car r c)
  | _, _, _, .ref h, c => .ref (c.pre _ _ h)
  | _, _, _, .new (a := a) h r, c => .new (c.keep _ (List.mem_cons_self ..) _ h) (RepO.car r (c.sub fun _ hx => List.mem_cons_of_mem _ hx))
theorem Reps.car {C : Cxt} {H H' : Hp} {L L' : List Addr} : ∀ {d : List D} {v : List V} {F : List Addr}, Reps C H L d v F → Car H L H' L' F → Reps C H' L' d v F
  | _, _, _, .nil, _ => .nil
  | _, _, _, .cons r s, c => .cons (Rep.car r (c.sub fun _ hx => List.mem_append_left _ hx)) (Reps.car s (c.sub fun _ hx => List.mem_append_right _ hx))
theorem RepKs.car {C : Cxt} {H H' : Hp} {L L' : List Addr} : ∀ {d : List (D × D)} {v : List (Key × V)} {F : List Addr}, RepKs C H L d v F → Car H L H' L' F → RepKs C H' L' d v F
  | _, _, _, .nil, _ => .nil
  | _, _, _, .cons k r s, c => .cons k (Rep.car r (c.sub fun _ hx => List.mem_append_left _ hx)) (RepKs.car s (c.sub fun _ hx => List.mem_append_right _ hx))
theorem RepFs.car {C : Cxt} {H H' : Hp} {L L' : List Addr} : ∀ {d : List (Nat × D)} {v : List (Str × V)} {F : List Addr}, RepFs C H L d v F → Car H L H' L' F → RepFs C H' L' d v F
  | _, _, _, .nil, _ => .nil
  | _, _, _, .cons r s, c => .cons (Rep.car r (c.sub fun _ hx => List.mem_append_left _ hx)) (RepFs.car s (c.sub fun _ hx => List.mem_append_right _ hx))
theorem RepO.car {C : Cxt} {H H' : Hp} {L L' : List Addr} : ∀ {d : O} {v : HO} {F : List Addr}, RepO C H L d v F → Car H L H' L' F → RepO C H' L' d v F
  | _, _, _, .lst r, c => .lst (Reps.car r c)
  | _, _, _, .dct r, c => .dct (RepKs.car r c)
  | _, _, _, .ins q r, c => .ins q (RepFs.car r c)
end
theorem Ext.car {H H' : Hp} {L L' F : List Addr} (e : Ext H L H' L') (hF : ∀ a ∈ F, a ∉ L) : Car H L H' L' F := by
  obtain ⟨M, e1, _⟩ := e.pre
  refine ⟨e.tups, e.frzs, fun n a h => ?_, fun a ha o h => e.frame a o (hF a ha) h⟩
  rw [e1, List.getElem?_append_left (List.getElem?_eq_some_iff.mp h).1]
  exact h
theorem Ext.car0 {H H' : Hp} {L L' : List Addr} (e : Ext H L H' L') : Car H L H' L' [] := e.car (by simp)
theorem SimE.ext {C : Cxt} {H H' : Hp} {L L' : List Addr} {ρ : AEnv} {σ : L2.St} (s : SimE C H L ρ σ) (e : Ext H L H' L') : SimE C H' L' ρ σ := ⟨s.1, fun i d h => by
  obtain ⟨v, h1, h2⟩ := s.2 i d h
  exact ⟨v, h1, h2.car e.car0⟩⟩
/-- a result's made objects: new, apart from one another and from the cells -/
structure Fr (H : Hp) (F : List Addr) (L' : List Addr) : Prop where
  new : ∀ a ∈ F, H a = none
  nd : F.Nodup
  out : ∀ a ∈ F, a ∉ L'
theorem Fr.nil (H : Hp) (L : List Addr) : Fr H [] L := ⟨by simp, List.nodup_nil, by simp⟩
end Nv
/-! Nv: the syntax and its evaluator. -/
namespace Nv
open PySem PySem.Spec PyProof.Rows L2
/-! ### syntax -/
inductive Bop where | add | sub | mul | fdiv | mod | pow deriving DecidableEq
inductive Cop where | eq | ne | lt | le | gt | ge | inn | nin | isN | notN deriving DecidableEq
inductive Blt where | len | sum | max | min | all | any | sorted | list | tuple | dict | int | str deriving DecidableEq
inductive Bm where | append | pop | popAt | insert | extend | get | setdefault | update | index | join | clear deriving DecidableEq
inductive IsT where | int | bool | str | tuple | list | cls (c : Nat) deriving DecidableEq
/-- targets: a slot, a tuple of targets -/
inductive G where | name (i : Nat) | tup (gs : List G)
mutual
inductive E where
  | var (i : Nat) | non | bl (b : Bool) | int (i : Int) | str (s : Str) | glb (k : Nat)
  | tup (es : List E) | lst (es : List E) | dct (ks vs : List E)
  | bin (o : Bop) (a b : E) | neg (a : E) | cmp (o : Cop) (a b : E) | chain (o p : Cop) (a b c : E)
  | and (es : List E) | or (es : List E) | not (a : E) | ite (c a b : E)
  | idx (a i : E) | slc (a : E) (lo hi : Option E) | attr (e : E) (f : Nat)
  | call (f : Nat) (es : List E) | meth (o : E) (c m f : Nat) (es : List E) | make (c : Nat) (es : List E) | makek (c : Nat) (es ks : List E) (names : List Str) (ds : List (Nat ⊕ D))
  | blt (f : Blt) (es : List E) | bm (m : Bm) (o : E) (es : List E) | isi (e : E) (t : IsT)
  | comp (own : List (Str × Nat)) (g : G) (it : It) (ifs : List E) (elt : E)
inductive It where
  | of (e : E) | range (es : List E) | enum (e : E) | zip (a b : E) | rev (e : E)
end
inductive St where
  | expr (e : E) | set (i : Nat) (e : E) | unp (g : G) (e : E) | par (is : List Nat) (es : List E) | attr (o : E) (f : Nat) (e : E) | sub (o i e : E)
  | ite (c : E) (a b : List St) | wh (c : E) (b : List St) | forr (g : G) (it : It) (b : List St) (gc : Option (List Nat))
  | ret (e : E) | retN | pass | cont | brk | raise
structure Fn where
  name : Str
  ps : Nat
  slots : Nat
  gc : Bool
  body : List St
  pos : Bool := true
structure Cls' where
  name : Str
  init : Nat
  meths : List (Nat × Nat)
structure Prog where
  fns : List Fn
  cls : List Cls'
  globs : List (Str × D)
  syms : List Str
  nf : Nat := 0
  free : List Str := []
  kws : List (Nat × Nat × List Str × List (Nat ⊕ D)) := []
structure Sm where
  call : Nat → List D → Store → Rs D
  init : Nat → List D → Store → Rs D
inductive Fl where | nx | rt (d : D) | bk | ct

/-- what raises is not spoken of -/
def Rs.noex {α : Type} : Rs α → Rs α
  | .ok a S => .ok a S
  | _ => .stuck
/-! ### data: nothing that is made, no cell -/
mutual
def isData : D → Bool
  | .tup xs => areData xs
  | .ref _ => false
  | .new _ => false
  | _ => true
def areData : List D → Bool
  | [] => true
  | x :: xs => isData x && areData xs
end
/-! ### values read -/
def seqOf : D → Store → Option (List D)
  | .tup xs, _ => some xs
  | .new (.lst xs), _ => some xs
  | .ref n, S => match S[n]? with
    | some (.lst xs) => some xs
    | some (.frz xs) => some xs
    | _ => none
  | _, _ => none
/-- a list that may be written -/
def lstOf : D → Store → Option (List D)
  | .new (.lst xs), _ => some xs
  | .ref n, S => match S[n]? with
    | some (.lst xs) => some xs
    | _ => none
  | _, _ => none
/-- a list, also one that is only read -/
def lisOf : D → Store → Option (List D)
  | .new (.lst xs), _ => some xs
  | .ref n, S => match S[n]? with
    | some (.lst xs) => some xs
    | some (.frz xs) => some xs
    | _ => none
  | _, _ => none
def truD : D → Store → Option Bool
  | .non, _ => some false
  | .bl b, _ => some b
  | .int i, _ => some (i != 0)
  | .str s, _ => if s.length ≤ sizeLine then some ((s.length : Int) != 0) else none
  | .ref n, S => match S[n]? with
    | some (.lst xs) => some (!xs.isEmpty)
    | some (.frz xs) => some (!xs.isEmpty)
    | some (.dct kvs) => some (!kvs.isEmpty)
    | _ => none
  | .tup xs, _ => some (!xs.isEmpty)
  | .new (.lst xs), _ => some (!xs.isEmpty)
  | .new (.dct kvs), _ => some (!kvs.isEmpty)
  | _, _ => none
def Rs.of {α : Type} (o : Option α) (S : Store) : Rs α := match o with
  | some a => .ok a S
  | none => .stuck
/-! ### data as the library's data -/
mutual
def dat : D → Option PyData
  | .non => some .none
  | .bl b => some (.bool b)
  | .int i => some (.int i)
  | .str s => some (.str s)
  | .tup xs => (dats xs).map .tuple
  | .new (.lst xs) => (dats xs).map .list
  | _ => none
def dats : List D → Option (List PyData)
  | [] => some []
  | x :: xs => match dat x, dats xs with
    | some d, some ds => some (d :: ds)
    | _, _ => none
end
/-- data, or a list of data that stands in the store -/
def datS (S : Store) : D → Option PyData
  | .ref n => match S[n]? with
    | some (.lst xs) => (dats xs).map .list
    | some (.frz xs) => (dats xs).map .list
    | _ => none
  | d => dat d
/-- numbers, texts, None, truths: scalars that == compares at once -/
def scalD : D → Option V
  | .non => some .non
  | .bl b => some (.bl b)
  | .int i => some (.int i)
  | .str s => some (.str s)
  | _ => none
def eqD (x y : D) (S : Store) : Option Bool := match scalD x, scalD y with
  | some a, some b => if scal a b = true then some (decide (a = b)) else none
  | _, _ => match datS S x, datS S y with
    | some d, some e => if SeqAt.shaped d = true ∧ SeqAt.shaped e = true then some (PyData.eqv d e) else none
    | _, _ => none
def binD (o : Bop) (x y : D) (S : Store) : Option D := match o, x, y with
  | .add, .int i, .int j => some (.int (i + j))
  | .sub, .int i, .int j => some (.int (i - j))
  | .mul, .int i, .int j => if i.natAbs.log2 + j.natAbs.log2 < 1000000 then some (.int (i * j)) else none
  | .fdiv, .int i, .int j => if 0 < j ∧ j.natAbs.log2 < 9000 then some (.int (i / j)) else none
  | .mod, .int i, .int j => if 0 < j then some (.int (i % j)) else none
  | .pow, .int i, .int j => if 0 ≤ j ∧ j ≤ 1000000 ∧ i.natAbs < 2 ^ 64 then some (.int (i ^ j.toNat)) else none
  | .add, .str a, .str b => if a.length + b.length ≤ sizeLine then some (.str (a ++ b)) else none
  | .add, .tup xs, .tup ys => if xs.length + ys.length ≤ sizeLine then some (.tup (xs ++ ys)) else none
  | .add, x, y => match lstOf x S, lstOf y S with
    | some xs, some ys => if xs.length + ys.length ≤ sizeLine then some (.new (.lst (xs ++ ys))) else none
    | _, _ => none
  | _, _, _ => none
def cmpD (o : Cop) (x y : D) (S : Store) : Option Bool := match o, x, y with
  | .eq, x, y => eqD x y S
  | .ne, x, y => (eqD x y S).map not
  | .lt, .int i, .int j => some (decide (i < j))
  | .le, .int i, .int j => some (decide (i ≤ j))
  | .gt, .int i, .int j => some (decide (j < i))
  | .ge, .int i, .int j => some (decide (j ≤ i))
  | .isN, x, .non => match x with
    | .non => some true
    | _ => some false
  | .notN, x, .non => match x with
    | .non => some false
    | _ => some true
  | _, _, _ => none
def intsOf : List D → Option (List Int)
  | [] => some []
  | .int i :: r => (intsOf r).map (i :: ·)
  | _ :: _ => none
def blsOf : List D → Option (List Bool)
  | [] => some []
  | .bl i :: r => (blsOf r).map (i :: ·)
  | _ :: _ => none
def cutD (xs : List D) (lo hi : Option Int) : List D := (xs.drop (HT.sIx xs.length 0 lo)).take (HT.sIx xs.length xs.length hi - HT.sIx xs.length 0 lo)
def bltD (f : Blt) (es : List D) (S : Store) : Option D := match f, es with
  | .len, [.str s] => if s.length ≤ sizeLine then some (.int s.length) else none
  | .len, [x] => (seqOf x S).map fun xs => .int xs.length
  | .sum, [x] => (lisOf x S).bind fun xs => (intsOf xs).map fun ns => .int ns.sum
  | .min, [.int i, .int j] => some (.int (if j < i then j else i))
  | .max, [.int i, .int j] => some (.int (if j > i then j else i))
  | .all, [x] => (lisOf x S).bind fun xs => (blsOf xs).map fun ns => .bl (ns.all id)
  | .list, [x] => (seqOf x S).map fun xs => .new (.lst xs)
  | .tuple, [x] => (seqOf x S).map .tup
  | .any, [x] => (lisOf x S).bind fun xs => (blsOf xs).map fun ns => .bl (ns.any id)
  | _, _ => none
/-! ### truncation -/
mutual
def sameD : D → D → Bool
  | .non, b => match b with
    | .non => true
    | _ => false
  | .bl x, b => match b with
    | .bl y => decide (x = y)
    | _ => false
  | .int x, b => match b with
    | .int y => decide (x = y)
    | _ => false
  | .str x, b => match b with
    | .str y => decide (x = y)
    | _ => false
  | .tup x, b => match b with
    | .tup y => sameDs x y
    | _ => false
  | .ref x, b => match b with
    | .ref y => decide (x = y)
    | _ => false
  | .new x, b => match b with
    | .new y => sameO x y
    | _ => false
termination_by structural a => a
def sameDs : List D → List D → Bool
  | [], l => match l with
    | [] => true
    | _ => false
  | a :: r, l => match l with
    | b :: s => sameD a b && sameDs r s
    | [] => false
termination_by structural a => a
def sameO : O → O → Bool
  | .lst a, q => match q with
    | .lst b => sameDs a b
    | _ => false
  | .frz a, q => match q with
    | .frz b => sameDs a b
    | _ => false
  | .dct a, q => match q with
    | .dct b => sameKs a b
    | _ => false
  | .ins c a, q => match q with
    | .ins e b => decide (c = e) && sameFs a b
    | _ => false
termination_by structural a => a
def sameKs : List (D × D) → List (D × D) → Bool
  | [], l => match l with
    | [] => true
    | _ => false
  | (a, b) :: r, l => match l with
    | (c, d) :: s => sameD a c && sameD b d && sameKs r s
    | [] => false
termination_by structural a => a
def sameFs : List (Nat × D) → List (Nat × D) → Bool
  | [], l => match l with
    | [] => true
    | _ => false
  | (a, b) :: r, l => match l with
    | (c, d) :: s => decide (a = c) && sameD b d && sameFs r s
    | [] => false
termination_by structural a => a
end
def truncOk (n : Nat) : Store → Store → Bool
  | [], _ => true
  | o :: r, p :: s => (sameO o p || lowO n p) && truncOk n r s
  | _ :: _, [] => false
def trunc (S S' : Store) : Option Store := if truncOk S.length S S' = true then some (S'.take S.length) else none
def lowE (n : Nat) : AEnv → Bool
  | [] => true
  | none :: r => lowE n r
  | some d :: r => lowD n d && lowE n r
/-! ### a result's cells become made objects -/
def mapU (f : D → Option (D × List Nat)) : List D → Option (List D × List Nat)
  | [] => some ([], [])
  | x :: xs => match f x, mapU f xs with
    | some (y, u), some (ys, w) => some (y :: ys, u ++ w)
    | _, _ => none
def mapUK (f : D → Option (D × List Nat)) : List (D × D) → Option (List (D × D) × List Nat)
  | [] => some ([], [])
  | (q, x) :: xs => match f x, mapUK f xs with
    | some (y, u), some (ys, w) => some ((q, y) :: ys, u ++ w)
    | _, _ => none
def mapUF (f : D → Option (D × List Nat)) : List (Nat × D) → Option (List (Nat × D) × List Nat)
  | [] => some ([], [])
  | (q, x) :: xs => match f x, mapUF f xs with
    | some (y, u), some (ys, w) => some ((q, y) :: ys, u ++ w)
    | _, _ => none
def reifyO (f : D → Option (D × List Nat)) : O → Option (O × List Nat)
  | .lst xs => (mapU f xs).map fun r => (.lst r.1, r.2)
  | .dct kvs => (mapUK f kvs).map fun r => (.dct r.1, r.2)
  | .ins c fs => (mapUF f fs).map fun r => (.ins c r.1, r.2)
  | .frz _ => none
def reify (S : Store) (n : Nat) : Nat → D → Option (D × List Nat)
  | 0, _ => none
  | k + 1, .ref m => if m < n then some (.ref m, []) else match S[m]? with
    | some o => (reifyO (reify S n k) o).map fun r => (.new r.1, m :: r.2)
    | none => none
  | k + 1, .tup xs => (mapU (reify S n k) xs).map fun r => (.tup r.1, r.2)
  | k + 1, .new o => (reifyO (reify S n k) o).map fun r => (.new r.1, r.2)
  | _ + 1, d => some (d, [])
/-! ### targets, loops -/
def storeD (i : Nat) (d : D) (ρ : AEnv) (S : Store) : Rs AEnv := let r := mat d S; .ok (ρ.set i (some r.1)) r.2
mutual
def evalG : G → D → AEnv → Store → Rs AEnv
  | .name i, d, ρ, S => storeD i d ρ S
  | .tup gs, .tup xs, ρ, S => evalGs gs xs ρ S
  | .tup _, _, _, _ => .stuck
def evalGs : List G → List D → AEnv → Store → Rs AEnv
  | [], [], ρ, S => .ok ρ S
  | g :: gs, x :: xs, ρ, S => (evalG g x ρ S).bind fun ρ1 S1 => evalGs gs xs ρ1 S1
  | _, _, _, _ => .stuck
end
/-- names put in at once -/
def parD : List Nat → List D → AEnv → AEnv
  | i :: is, x :: xs, ρ => parD is xs (ρ.set i (some x))
  | _, _, ρ => ρ
def wipeD (ρ : AEnv) : List Nat → AEnv
  | [] => ρ
  | v :: vs => (wipeD ρ vs).set v none
/-- the list walked, if it stands in the store, is as it was -/
def guardOk : Option (Nat × List D) → Store → Bool
  | none, _ => true
  | some (n, xs), S => match S[n]? with
    | some (.lst ys) => sameDs xs ys
    | some (.frz ys) => sameDs xs ys
    | _ => false
/-- a turn's end: slots forgotten, cells made in the turn dropped -/
def turnEnd : Option (List Nat) → Store → AEnv → Store → Rs AEnv
  | none, _, ρ, S' => .ok ρ S'
  | some ks, S, ρ, S' => if lowE S.length (wipeD ρ ks) = true then match trunc S S' with
      | some T => .ok (wipeD ρ ks) T
      | none => .stuck
    else .stuck
def forF (gu : Option (Nat × List D)) (gc : Option (List Nat)) (asg : D → AEnv → Store → Rs AEnv) (body : AEnv → Store → Rs (Fl × AEnv)) : List D → AEnv → Store → Rs (Fl × AEnv)
  | [], ρ, S => if guardOk gu S = true then .ok (.nx, ρ) S else .stuck
  | x :: xs, ρ, S => if guardOk gu S = true then (asg x ρ S).bind fun ρ1 S1 => (body ρ1 S1).bind fun r S2 => match r.1 with
      | .nx => (turnEnd gc S r.2 S2).bind fun ρ3 S3 => forF gu gc asg body xs ρ3 S3
      | .ct => (turnEnd gc S r.2 S2).bind fun ρ3 S3 => forF gu gc asg body xs ρ3 S3
      | .bk => .ok (.nx, r.2) S2
      | .rt d => .ok (.rt d, r.2) S2
    else .stuck
def whF (c : AEnv → Store → Rs Bool) (body : AEnv → Store → Rs (Fl × AEnv)) : Nat → AEnv → Store → Rs (Fl × AEnv)
  | 0, _, _ => .stuck
  | n + 1, ρ, S => (c ρ S).bind fun b S1 => match b with
    | true => (body ρ S1).bind fun r S2 => match r.1 with
      | .nx => whF c body n r.2 S2
      | .ct => whF c body n r.2 S2
      | .bk => .ok (.nx, r.2) S2
      | .rt d => .ok (.rt d, r.2) S2
    | false => .ok (.nx, ρ) S1
def WF : Nat := 1000000
def compF (gu : Option (Nat × List D)) (asg : D → AEnv → Store → Rs AEnv) (tst : AEnv → Store → Rs Bool) (elt : AEnv → Store → Rs D) (ρ : AEnv) : List D → Store → Rs (List D)
  | [], S => if guardOk gu S = true then .ok [] S else .stuck
  | x :: xs, S => if guardOk gu S = true then (asg x ρ S).bind fun ρ1 S1 => (tst ρ1 S1).bind fun b S2 => match b with
      | true => (elt ρ1 S2).bind fun y S3 => (compF gu asg tst elt ρ xs S3).bind fun ys S4 => .ok (y :: ys) S4
      | false => compF gu asg tst elt ρ xs S2
    else .stuck
def idxD (x i : D) (S : Store) : Option D := match x, i with
  | .str z, .int k => if z.length ≤ sizeLine then (atI z.cps.toList k).map fun c => .str ⟨#[c]⟩ else none
  | x, .int k => (seqOf x S).bind fun xs => atI xs k
  | _, _ => none
def slcD (x : D) (lo hi : Option Int) (S : Store) : Option D := match x with
  | .str z => if z.length ≤ sizeLine then some (.str (cutS z lo hi)) else none
  | .tup xs => some (.tup (cutD xs lo hi))
  | x => (seqOf x S).map fun xs => .new (.lst (cutD xs lo hi))
def attrD (x : D) (f : Nat) (S : Store) : Option D := match x with
  | .ref n => match S[n]? with
    | some (.ins _ fs) => fs.lookup f
    | _ => none
  | _ => none
def putA (f : Nat) (v : D) : List (Nat × D) → List (Nat × D)
  | [] => [(f, v)]
  | (g, x) :: r => if g = f then (g, v) :: r else (g, x) :: putA f v r
def setAttr (x : D) (f : Nat) (v : D) (S : Store) : Option Store := match x with
  | .ref n => match S[n]? with
    | some (.ins c fs) => if fs.length < 1000 then some (S.set n (.ins c (putA f v fs))) else none
    | _ => none
  | _ => none
def setSub (x i v : D) (S : Store) : Option Store := match x, i with
  | .ref n, .int k => match S[n]? with
    | some (.lst xs) => (ixN xs.length k).map fun j => S.set n (.lst (xs.set j v))
    | _ => none
  | _, _ => none
/-- a built-in method: the value, the store -/
def bmD (m : Bm) (x : D) (es : List D) (S : Store) : Rs D := match m, x, es with
  | .append, .ref n, [y] => match S[n]? with
    | some (.lst xs) => if xs.length < sizeLine then .ok .non ((mat y S).2.set n (.lst (xs ++ [(mat y S).1]))) else .stuck
    | _ => .stuck
  | .pop, .ref n, [] => match S[n]? with
    | some (.lst xs) => match xs[xs.length - 1]? with
      | some y => .ok y (S.set n (.lst xs.dropLast))
      | none => .stuck
    | _ => .stuck
  | _, _, _ => .stuck
def rangeD (xs : List D) : Option (List D) := match xs with
  | [.int j] => if -(2 ^ 62) ≤ j ∧ j < 2 ^ 62 then some ((List.range j.toNat).map fun i => .int (0 + (i : Nat))) else none
  | [.int i, .int j] => if -(2 ^ 62) ≤ i ∧ i < 2 ^ 62 ∧ -(2 ^ 62) ≤ j ∧ j < 2 ^ 62 then some ((List.range (j - i).toNat).map fun k => .int (i + (k : Nat))) else none
  | _ => none
def guardOf : D → List D → Option (Nat × List D)
  | .ref n, xs => some (n, xs)
  | _, _ => none
def enumD (i : Nat) : List D → List D
  | [] => []
  | x :: xs => .tup [.int (i : Nat), x] :: enumD (i + 1) xs
def isiD (x : D) (t : IsT) (S : Store) : Option Bool := match t, x with
  | .int, .int _ => some true
  | .int, .bl _ => some true
  | .int, .str _ => some false
  | .int, .non => some false
  | .int, .tup _ => some false
  | .bool, .bl _ => some true
  | .bool, .int _ => some false
  | .bool, .str _ => some false
  | .bool, .non => some false
  | .bool, .tup _ => some false
  | _, _ => none
/-- no made object in it -/
def isCell (d : D) : Bool := match d with
  | .tup _ => isData d
  | .new _ => false
  | _ => true
/-- an own method of the class c: the receiver's cell -/
def methD (c m : Nat) (x : D) (S : Store) (k : Nat → Rs D) : Rs D := match x with
  | .ref n => match S[n]? with
    | some (.ins c' fs) => if c' = c ∧ fs.lookup m = none then k n else .stuck
    | _ => .stuck
  | _ => .stuck
def makeD (c : Nat) (g : List D → Store → Rs D) (xs : List D) (S : Store) : Rs D := (g (.ref (mats xs S).2.length :: (mats xs S).1) ((mats xs S).2 ++ [.ins c []])).bind fun v S3 => match v with
  | .non => .ok (.ref (mats xs S).2.length) S3
  | _ => .stuck
def kwD (ds : List (Nat ⊕ D)) (ys : List D) : List D := ds.map fun z => match z with
  | .inl j => ys.getD j .non
  | .inr d => d
def makeKD (c : Nat) (g : List D → Store → Rs D) (ds : List (Nat ⊕ D)) (xs ys : List D) (S : Store) : Rs D :=
  if xs.all isCell = true ∧ ys.all isCell = true then makeD c g (xs ++ kwD ds ys) S else .stuck
def bmTy (m : Bm) (x : D) (S : Store) : Bool := match m with
  | .append | .pop => (lstOf x S).isSome
  | _ => false
/-! ### the evaluator -/
section
variable (P : Prog) (M : Sm)
mutual
def evalE : E → AEnv → Store → Rs D
  | .var i, ρ, S => match ρ[i]? with
    | some (some d) => .ok d S
    | _ => .stuck
  | .non, _, S => .ok .non S
  | .bl b, _, S => .ok (.bl b) S
  | .int i, _, S => .ok (.int i) S
  | .str s, _, S => .ok (.str s) S
  | .glb k, _, S => match P.globs[k]? with
    | some g => .ok g.2 S
    | none => .stuck
  | .tup es, ρ, S => (evalEs es ρ S).bind fun xs S1 => if xs.length ≤ sizeLine then .ok (.tup xs) S1 else .stuck
  | .lst es, ρ, S => (evalEs es ρ S).bind fun xs S1 => if xs.length ≤ sizeLine then .ok (.new (.lst xs)) S1 else .stuck
  | .dct _ _, _, _ => .stuck
  | .bin o a b, ρ, S => (evalE a ρ S).bind fun x S1 => (evalE b ρ S1).bind fun y S2 => Rs.of (binD o x y S2) S2
  | .neg a, ρ, S => (evalE a ρ S).bind fun x S1 => match x with
    | .int i => .ok (.int (-i)) S1
    | _ => .stuck
  | .cmp o a b, ρ, S => (evalE a ρ S).bind fun x S1 => (evalE b ρ S1).bind fun y S2 => Rs.of ((cmpD o x y S2).map .bl) S2
  | .chain o p a b c, ρ, S => (evalE a ρ S).bind fun x S1 => (evalE b ρ S1).bind fun y S2 => match cmpD o x y S2 with
    | some true => (evalE c ρ S2).bind fun z S3 => Rs.of ((cmpD p y z S3).map .bl) S3
    | some false => .ok (.bl false) S2
    | none => .stuck
  | .and es, ρ, S => evalAnd es ρ S
  | .or es, ρ, S => evalOr es ρ S
  | .not a, ρ, S => (evalE a ρ S).bind fun x S1 => match truD x S1 with
    | some k => .ok (.bl (!k)) S1
    | none => .stuck
  | .ite c a b, ρ, S => (evalE c ρ S).bind fun x S1 => match truD x S1 with
    | some true => evalE a ρ S1
    | some false => evalE b ρ S1
    | none => .stuck
  | .idx a i, ρ, S => (evalE a ρ S).bind fun x S1 => (evalE i ρ S1).bind fun y S2 => Rs.of (idxD x y S2) S2
  | .slc a lo hi, ρ, S => (evalE a ρ S).bind fun x S1 => (evalO lo ρ S1).bind fun l S2 => (evalO hi ρ S2).bind fun h S3 => Rs.of (slcD x l h S3) S3
  | .attr e f, ρ, S => (evalE e ρ S).bind fun x S1 => Rs.of (attrD x f S1) S1
  | .call f es, ρ, S => (evalEs es ρ S).bind fun xs S1 => let r := mats xs S1; M.call f r.1 r.2
  | .meth o c m f es, ρ, S => (evalE o ρ S).bind fun x S1 => methD c m (mat x S1).1 (mat x S1).2 fun n => (evalEs es ρ (mat x S1).2).bind fun xs S2 => M.call f (.ref n :: (mats xs S2).1) (mats xs S2).2
  | .make c es, ρ, S => match P.cls[c]? with
    | none => .stuck
    | some cl => (evalEs es ρ S).bind fun xs S1 => makeD c (M.init cl.init) xs S1
  | .makek c es ks _ ds, ρ, S => match P.cls[c]? with
    | none => .stuck
    | some cl => (evalEs es ρ S).bind fun xs S1 => (evalEs ks ρ S1).bind fun ys S2 => makeKD c (M.init cl.init) ds xs ys S2
  | .blt f es, ρ, S => (evalEs es ρ S).bind fun xs S1 => Rs.of (bltD f xs S1) S1
  | .bm m o es, ρ, S => (evalE o ρ S).bind fun x S1 => if bmTy m x S1 = true then (evalEs es ρ S1).bind fun xs S2 => bmD m x xs S2 else .stuck
  | .isi e t, ρ, S => (evalE e ρ S).bind fun x S1 => Rs.of ((isiD x t S1).map .bl) S1
  | .comp own g it ifs elt, ρ, S => (evalIt it ρ S).bind fun r S1 => (compF r.2 (evalG g) (evalIfs ifs) (evalE elt) (wipeD ρ (own.map (·.2))) r.1 S1).noex.bind fun ys S2 => if ys.length ≤ sizeLine then .ok (.new (.lst ys)) S2 else .stuck
def evalEs : List E → AEnv → Store → Rs (List D)
  | [], _, S => .ok [] S
  | e :: es, ρ, S => (evalE e ρ S).bind fun x S1 => (evalEs es ρ S1).bind fun xs S2 => .ok (x :: xs) S2
def evalO : Option E → AEnv → Store → Rs (Option Int)
  | none, _, S => .ok none S
  | some e, ρ, S => (evalE e ρ S).bind fun x S1 => match x with
    | .int i => .ok (some i) S1
    | _ => .stuck
def evalAnd : List E → AEnv → Store → Rs D
  | [], _, _ => .stuck
  | [e], ρ, S => evalE e ρ S
  | e :: es, ρ, S => (evalE e ρ S).bind fun x S1 => match truD x S1 with
    | some true => evalAnd es ρ S1
    | some false => .ok x S1
    | none => .stuck
def evalOr : List E → AEnv → Store → Rs D
  | [], _, _ => .stuck
  | [e], ρ, S => evalE e ρ S
  | e :: es, ρ, S => (evalE e ρ S).bind fun x S1 => match truD x S1 with
    | some true => .ok x S1
    | some false => evalOr es ρ S1
    | none => .stuck
def evalIfs : List E → AEnv → Store → Rs Bool
  | [], _, S => .ok true S
  | [e], ρ, S => (evalE e ρ S).bind fun x S1 => Rs.of (truD x S1) S1
  | _, _, _ => .stuck
def evalIt : It → AEnv → Store → Rs (List D × Option (Nat × List D))
  | .of e, ρ, S => (evalE e ρ S).bind fun x S1 => match seqOf x S1 with
    | some xs => .ok (xs, guardOf x xs) S1
    | none => .stuck
  | .range es, ρ, S => (evalEs es ρ S).bind fun xs S1 => match rangeD xs with
    | some ys => .ok (ys, none) S1
    | none => .stuck
  | .enum e, ρ, S => (evalE e ρ S).bind fun x S1 => match lisOf x S1 with
    | some xs => .ok (enumD 0 xs, guardOf x xs) S1
    | none => .stuck
  | .zip _ _, _, _ => .stuck
  | .rev _, _, _ => .stuck
end
mutual
def evalS : St → AEnv → Store → Rs (Fl × AEnv)
  | .expr e, ρ, S => (evalE P M e ρ S).bind fun _ S1 => .ok (.nx, ρ) S1
  | .set i e, ρ, S => (evalE P M e ρ S).bind fun x S1 => (storeD i x ρ S1).bind fun ρ1 S2 => .ok (.nx, ρ1) S2
  | .unp g e, ρ, S => (evalE P M e ρ S).bind fun x S1 => (evalG g x ρ S1).bind fun ρ1 S2 => .ok (.nx, ρ1) S2
  | .par is es, ρ, S => (evalEs P M es ρ S).bind fun xs S1 => .ok (.nx, parD is (mats xs S1).1 ρ) (mats xs S1).2
  | .attr o f e, ρ, S => (evalE P M e ρ S).bind fun y S1 => (evalE P M o ρ S1).bind fun x S2 => let r := mat y S2; (Rs.of (setAttr x f r.1 r.2) S2).bind fun S3 _ => .ok (.nx, ρ) S3
  | .sub o i e, ρ, S => (evalE P M e ρ S).bind fun y S1 => (evalE P M o ρ S1).bind fun x S2 => (evalE P M i ρ S2).bind fun k S3 => let r := mat y S3; (Rs.of (setSub x k r.1 r.2) S3).bind fun S4 _ => .ok (.nx, ρ) S4
  | .ite c a b, ρ, S => (evalE P M c ρ S).bind fun x S1 => match truD x S1 with
    | some true => evalSs a ρ S1
    | some false => evalSs b ρ S1
    | none => .stuck
  | .wh c b, ρ, S => whF (fun ρ S => (evalE P M c ρ S).bind fun x S1 => Rs.of (truD x S1) S1) (evalSs b) WF ρ S
  | .forr g it b gc, ρ, S => (evalIt P M it ρ S).bind fun r S1 => forF r.2 gc (evalG g) (evalSs b) r.1 ρ S1
  | .ret e, ρ, S => (evalE P M e ρ S).bind fun x S1 => .ok (.rt x, ρ) S1
  | .retN, ρ, S => .ok (.rt .non, ρ) S
  | .pass, ρ, S => .ok (.nx, ρ) S
  | .cont, ρ, S => .ok (.ct, ρ) S
  | .brk, ρ, S => .ok (.bk, ρ) S
  | .raise, _, _ => .stuck
def evalSs : List St → AEnv → Store → Rs (Fl × AEnv)
  | [], ρ, S => .ok (.nx, ρ) S
  | s :: r, ρ, S => (evalS s ρ S).bind fun q S1 => match q.1 with
    | .nx => evalSs r q.2 S1
    | _ => .ok q S1
end
/-- a def's end -/
def finF (gc : Bool) (S : Store) (d : D) (S' : Store) : Rs D := match gc with
  | false => .ok d S'
  | true => match reify S' S.length 6 d, trunc S S' with
    | some (d', us), some T => if us.Nodup then .ok d' T else .stuck
    | _, _ => .stuck
def runF (f : Nat) (args : List D) (S : Store) : Rs D := match P.fns[f]? with
  | none => .stuck
  | some fn => if args.length = fn.ps ∧ fn.ps ≤ fn.slots then
      (evalSs P M fn.body (args.map some ++ List.replicate (fn.slots - fn.ps) none) S).bind fun q S' => match q.1 with
        | .nx => finF fn.gc S .non S'
        | .rt d => finF fn.gc S d S'
        | _ => .stuck
    else .stuck
end
/-- calls, d deep -/
def sm (P : Prog) : Nat → Sm
  | 0 => ⟨fun _ _ _ => .stuck, fun _ _ _ => .stuck⟩
  | d + 1 => ⟨runF P (sm P d), (sm P d).call⟩
end Nv
/-! Nv: what it means that a reading agrees with the evaluator; the bricks. -/
namespace Nv
open PySem PySem.Spec PyProof.Rows L2
theorem Rs.bind_ok {α β : Type} {r : Rs α} {f : α → Store → Rs β} {b : β} {S' : Store} (h : r.bind f = .ok b S') : ∃ a S1, r = .ok a S1 ∧ f a S1 = .ok b S' := by
  cases r with
  | ok a S1 => exact ⟨a, S1, rfl, h⟩
  | ex x S1 => cases h
  | stuck => cases h

mutual
theorem Rep.trk {C : Cxt} {H : Hp} {L : List Addr} : ∀ {d : D} {v : V} {F : List Addr}, Rep C H L d v F → ∀ a ∈ F, ∃ o, H a = some o
  | _, _, _, .non, a, h => nomatch h
  | _, _, _, .bl b, a, h => nomatch h
  | _, _, _, .int i, a, h => nomatch h
  | _, _, _, .str s, a, h => nomatch h
  | _, _, _, .tup _ r, a, h => Reps.trk r a h
  | _, _, _, .ref _, a, h => nomatch h
  | _, _, _, .new h0 r, a, h => by
    rcases List.mem_cons.mp h with e | h
    · exact ⟨_, e ▸ h0⟩
    · exact RepO.trk r a h
theorem Reps.trk {C : Cxt} {H : Hp} {L : List Addr} : ∀ {d : List D} {v : List V} {F : List Addr}, Reps C H L d v F → ∀ a ∈ F, ∃ o, H a = some o
  | _, _, _, .nil, a, h => nomatch h
  | _, _, _, .cons r s, a, h => (List.mem_append.mp h).elim (Rep.trk r a) (Reps.trk s a)
theorem RepKs.trk {C : Cxt} {H : Hp} {L : List Addr} : ∀ {d : List (D × D)} {v : List (Key × V)} {F : List Addr}, RepKs C H L d v F → ∀ a ∈ F, ∃ o, H a = some o
  | _, _, _, .nil, a, h => nomatch h
  | _, _, _, .cons _ r s, a, h => (List.mem_append.mp h).elim (Rep.trk r a) (RepKs.trk s a)
theorem RepFs.trk {C : Cxt} {H : Hp} {L : List Addr} : ∀ {d : List (Nat × D)} {v : List (Str × V)} {F : List Addr}, RepFs C H L d v F → ∀ a ∈ F, ∃ o, H a = some o
  | _, _, _, .nil, a, h => nomatch h
  | _, _, _, .cons r s, a, h => (List.mem_append.mp h).elim (Rep.trk r a) (RepFs.trk s a)
theorem RepO.trk {C : Cxt} {H : Hp} {L : List Addr} : ∀ {d : O} {v : HO} {F : List Addr}, RepO C H L d v F → ∀ a ∈ F, ∃ o, H a = some o
  | _, _, _, .lst r, a, h => Reps.trk r a h
  | _, _, _, .dct r, a, h => RepKs.trk r a h
  | _, _, _, .ins _ r, a, h => RepFs.trk r a h
end
theorem Reps.length {C : Cxt} {H : Hp} {L : List Addr} : ∀ {d : List D} {v : List V} {F : List Addr}, Reps C H L d v F → d.length = v.length
  | _, _, _, .nil => rfl
  | _, _, _, .cons _ s => congrArg Nat.succ s.length

/-- a result d, standing as v in H' with the cells at L' (the store S'), from H with the cells at L -/
structure Post (C : Cxt) (H : Hp) (L : List Addr) (S' : Store) (d : D) (v : V) (H' : Hp) (L' F : List Addr) : Prop where
  ext : Ext H L H' L'
  sim : SimS C H' L' S'
  rep : Rep C H' L' d v F
  fr : Fr H F L'
structure PostL (C : Cxt) (H : Hp) (L : List Addr) (S' : Store) (d : List D) (v : List V) (H' : Hp) (L' F : List Addr) : Prop where
  ext : Ext H L H' L'
  sim : SimS C H' L' S'
  rep : Reps C H' L' d v F
  fr : Fr H F L'
/-- made objects of an earlier result stay apart from what comes later -/
theorem Fr.later {H H1 H2 : Hp} {L L1 L2 F G : List Addr} (e1 : Ext H L H1 L1) (f : Fr H F L1) (tr : ∀ a ∈ F, ∃ o, H1 a = some o) (e2 : Ext H1 L1 H2 L2) (g : Fr H1 G L2) : Fr H (F ++ G) L2 := by
  obtain ⟨M, em, nm⟩ := e2.pre
  refine ⟨fun a h => ?_, ?_, fun a h => ?_⟩
  · rcases List.mem_append.mp h with h | h
    · exact f.new a h
    · exact e1.dom a (g.new a h)
  · rw [List.nodup_append]
    refine ⟨f.nd, g.nd, fun a ha b hb e => ?_⟩
    subst e
    obtain ⟨o, q⟩ := tr a ha
    rw [g.new a hb] at q; cases q
  · rcases List.mem_append.mp h with h | h
    · rw [em]
      intro hm
      rcases List.mem_append.mp hm with q | q
      · exact f.out a h q
      · obtain ⟨o, r⟩ := tr a h
        rw [nm a q] at r; cases r
    · exact g.out a h
theorem Post.seq {C : Cxt} {H H1 H2 : Hp} {L L1 L2 F G : List Addr} {S1 S2 : Store} {x y : D} {vx vy : V} (a : Post C H L S1 x vx H1 L1 F) (b : Post C H1 L1 S2 y vy H2 L2 G) :
    Ext H L H2 L2 ∧ Rep C H2 L2 x vx F ∧ Fr H (F ++ G) L2 :=
  ⟨a.ext.trans b.ext, a.rep.car (b.ext.car a.fr.out), a.fr.later a.ext a.rep.trk b.ext b.fr⟩
theorem Post.seqL {C : Cxt} {H H1 H2 : Hp} {L L1 L2 F G : List Addr} {S1 S2 : Store} {x : D} {y : List D} {vx : V} {vy : List V} (a : Post C H L S1 x vx H1 L1 F) (b : PostL C H1 L1 S2 y vy H2 L2 G) :
    Ext H L H2 L2 ∧ Rep C H2 L2 x vx F ∧ Fr H (F ++ G) L2 :=
  ⟨a.ext.trans b.ext, a.rep.car (b.ext.car a.fr.out), a.fr.later a.ext a.rep.trk b.ext b.fr⟩
theorem PostL.seqL {C : Cxt} {H H1 H2 : Hp} {L L1 L2 F G : List Addr} {S1 S2 : Store} {x : List D} {y : List D} {vx : List V} {vy : List V} (a : PostL C H L S1 x vx H1 L1 F) (b : PostL C H1 L1 S2 y vy H2 L2 G) :
    Ext H L H2 L2 ∧ Reps C H2 L2 x vx F ∧ Fr H (F ++ G) L2 :=
  ⟨a.ext.trans b.ext, a.rep.car (b.ext.car a.fr.out), a.fr.later a.ext a.rep.trk b.ext b.fr⟩
theorem PostL.cons {C : Cxt} {H H1 H2 : Hp} {L L1 L2 F G : List Addr} {S1 S2 : Store} {x : D} {y : List D} {vx : V} {vy : List V} (a : Post C H L S1 x vx H1 L1 F) (b : PostL C H1 L1 S2 y vy H2 L2 G) :
    PostL C H L S2 (x :: y) (vx :: vy) H2 L2 (F ++ G) := by
  obtain ⟨e, r, f⟩ := a.seqL b
  exact ⟨e, b.sim, .cons r b.rep, f⟩

/-- what holds of a result -/
def Rs.sat {α : Type} (r : Rs α) (A : α → Store → Prop) (B : Exn → Store → Prop) : Prop := match r with
  | .ok a S => A a S
  | .ex x S => B x S
  | .stuck => False
theorem sat_bind {α β : Type} {r : Rs α} {f : α → Store → Rs β} {A : β → Store → Prop} {B : Exn → Store → Prop} (h : (r.bind f).sat A B) : r.sat (fun a S => (f a S).sat A B) B := by
  cases r with
  | ok a S => exact h
  | ex x S => exact h
  | stuck => exact h
theorem sat_mono {α : Type} {r : Rs α} {A A' : α → Store → Prop} {B B' : Exn → Store → Prop} (h : r.sat A B) (ha : ∀ a S, A a S → A' a S) (hb : ∀ x S, B x S → B' x S) : r.sat A' B' := by
  cases r with
  | ok a S => exact ha a S h
  | ex x S => exact hb x S h
  | stuck => exact h
theorem sat_of {α : Type} {o : Option α} {S : Store} {A : α → Store → Prop} {B : Exn → Store → Prop} (h : (Rs.of o S).sat A B) : ∃ a, o = some a ∧ A a S := by
  cases o with
  | some a => exact ⟨a, rfl, h⟩
  | none => exact h.elim
/-- exceptions: how the abstract one lies in the heap -/
abbrev XR := Exn → Value → Option Addr → Hp → Prop
/-- the wish about exceptions, from H with the cells at L -/
def ExW (C : Cxt) (R : XR) (E : XK) (H : Hp) (L : List Addr) (x : Exn) (S' : Store) : Prop := ∀ cls dd H' L', Ext H L H' L' → SimS C H' L' S' → R x cls dd H' → E cls dd H'
theorem ExW.later {C : Cxt} {R : XR} {E : XK} {H H1 : Hp} {L L1 : List Addr} {x : Exn} {S' : Store} (e : Ext H L H1 L1) (h : ExW C R E H L x S') : ExW C R E H1 L1 x S' := fun cls dd H' L' e' => h cls dd H' L' (e.trans e')
def OkW (C : Cxt) (H : Hp) (L : List Addr) (Q : VK) (d : D) (S' : Store) : Prop := ∀ v H' L' F, Post C H L S' d v H' L' F → Q v H'
def OkL (C : Cxt) (H : Hp) (L : List Addr) (Q : List V → Hp → Prop) (d : List D) (S' : Store) : Prop := ∀ v H' L' F, PostL C H L S' d v H' L' F → Q v H'
def OkP {α : Type} (C : Cxt) (H : Hp) (L : List Addr) (Q : α → Hp → Prop) (d : α) (S' : Store) : Prop := ∀ H' L', Ext H L H' L' → SimS C H' L' S' → Q d H'
def GoodE (C : Cxt) (R : XR) (E : XK) (t : TE) (f : AEnv → Store → Rs D) : Prop :=
  ∀ (σ : L2.St) (H : Hp) (L : List Addr) (ρ : AEnv) (S : Store) (Q : VK), SimS C H L S → SimE C H L ρ σ → (f ρ S).sat (OkW C H L Q) (ExW C R E H L) → t σ H Q
def GoodA (C : Cxt) (R : XR) (E : XK) (t : TA) (f : AEnv → Store → Rs (List D)) : Prop :=
  ∀ (σ : L2.St) (H : Hp) (L : List Addr) (ρ : AEnv) (S : Store) (Q : List V → Hp → Prop), SimS C H L S → SimE C H L ρ σ → (f ρ S).sat (OkL C H L Q) (ExW C R E H L) → t σ H Q
def GoodT (C : Cxt) (R : XR) (E : XK) (t : TT) (f : AEnv → Store → Rs Bool) : Prop :=
  ∀ (σ : L2.St) (H : Hp) (L : List Addr) (ρ : AEnv) (S : Store) (Q : Bool → Hp → Prop), SimS C H L S → SimE C H L ρ σ → (f ρ S).sat (OkP C H L Q) (ExW C R E H L) → t σ H Q
def GoodO (C : Cxt) (R : XR) (E : XK) (t : TO) (f : AEnv → Store → Rs (Option Int)) : Prop :=
  ∀ (σ : L2.St) (H : Hp) (L : List Addr) (ρ : AEnv) (S : Store) (Q : Option Int → Hp → Prop), SimS C H L S → SimE C H L ρ σ → (f ρ S).sat (OkP C H L Q) (ExW C R E H L) → t σ H Q
/-- a reading first, then the rest -/
theorem GoodE.first {C : Cxt} {R : XR} {E : XK} {t : TE} {f : AEnv → Store → Rs D} (g : GoodE C R E t f) {α : Type} {σ : L2.St} {H : Hp} {L : List Addr} {ρ : AEnv} {S : Store} {Q : VK} (s : SimS C H L S) (e : SimE C H L ρ σ)
    {k : D → Store → Rs α} {A : α → Store → Prop} {B : Exn → Store → Prop} (hB : ∀ x S', B x S' → ExW C R E H L x S') (h : ((f ρ S).bind k).sat A B)
    (ok : ∀ x S1 v H1 L1 F, Post C H L S1 x v H1 L1 F → SimE C H1 L1 ρ σ → (k x S1).sat A B → Q v H1) : t σ H Q := by
  refine g σ H L ρ S Q s e (sat_mono (sat_bind h) (fun x S1 hk v H1 L1 F p => ?_) hB)
  exact ok x S1 v H1 L1 F p (e.ext p.ext) hk
theorem GoodA.first {C : Cxt} {R : XR} {E : XK} {t : TA} {f : AEnv → Store → Rs (List D)} (g : GoodA C R E t f) {α : Type} {σ : L2.St} {H : Hp} {L : List Addr} {ρ : AEnv} {S : Store} {Q : List V → Hp → Prop} (s : SimS C H L S) (e : SimE C H L ρ σ)
    {k : List D → Store → Rs α} {A : α → Store → Prop} {B : Exn → Store → Prop} (hB : ∀ x S', B x S' → ExW C R E H L x S') (h : ((f ρ S).bind k).sat A B)
    (ok : ∀ x S1 v H1 L1 F, PostL C H L S1 x v H1 L1 F → SimE C H1 L1 ρ σ → (k x S1).sat A B → Q v H1) : t σ H Q := by
  refine g σ H L ρ S Q s e (sat_mono (sat_bind h) (fun x S1 hk v H1 L1 F p => ?_) hB)
  exact ok x S1 v H1 L1 F p (e.ext p.ext) hk
theorem GoodT.first {C : Cxt} {R : XR} {E : XK} {t : TT} {f : AEnv → Store → Rs Bool} (g : GoodT C R E t f) {α : Type} {σ : L2.St} {H : Hp} {L : List Addr} {ρ : AEnv} {S : Store} {Q : Bool → Hp → Prop} (s : SimS C H L S) (e : SimE C H L ρ σ)
    {k : Bool → Store → Rs α} {A : α → Store → Prop} {B : Exn → Store → Prop} (hB : ∀ x S', B x S' → ExW C R E H L x S') (h : ((f ρ S).bind k).sat A B)
    (ok : ∀ x S1 H1 L1, Ext H L H1 L1 → SimS C H1 L1 S1 → SimE C H1 L1 ρ σ → (k x S1).sat A B → Q x H1) : t σ H Q := by
  refine g σ H L ρ S Q s e (sat_mono (sat_bind h) (fun x S1 hk H1 L1 p q => ?_) hB)
  exact ok x S1 H1 L1 p q (e.ext p) hk
theorem GoodO.first {C : Cxt} {R : XR} {E : XK} {t : TO} {f : AEnv → Store → Rs (Option Int)} (g : GoodO C R E t f) {α : Type} {σ : L2.St} {H : Hp} {L : List Addr} {ρ : AEnv} {S : Store} {Q : Option Int → Hp → Prop} (s : SimS C H L S) (e : SimE C H L ρ σ)
    {k : Option Int → Store → Rs α} {A : α → Store → Prop} {B : Exn → Store → Prop} (hB : ∀ x S', B x S' → ExW C R E H L x S') (h : ((f ρ S).bind k).sat A B)
    (ok : ∀ x S1 H1 L1, Ext H L H1 L1 → SimS C H1 L1 S1 → SimE C H1 L1 ρ σ → (k x S1).sat A B → Q x H1) : t σ H Q := by
  refine g σ H L ρ S Q s e (sat_mono (sat_bind h) (fun x S1 hk H1 L1 p q => ?_) hB)
  exact ok x S1 H1 L1 p q (e.ext p) hk

/-! ### the judgements -/
def EE (C : Cxt) (R : XR) (X : Cx) (E : XK) (e : Expr) (f : AEnv → Store → Rs D) : Prop := ∃ t, PE X e t ∧ GoodE C R E t f
def EA (C : Cxt) (R : XR) (X : Cx) (E : XK) (e : List Expr) (f : AEnv → Store → Rs (List D)) : Prop := ∃ t, PA X e t ∧ GoodA C R E t f
/-- as a test -/
def truF (f : AEnv → Store → Rs D) : AEnv → Store → Rs Bool := fun ρ S => (f ρ S).bind fun x S1 => Rs.of (truD x S1) S1
def ET (C : Cxt) (R : XR) (X : Cx) (E : XK) (e : Expr) (f : AEnv → Store → Rs D) : Prop := ∃ t, PT X e t ∧ GoodT C R E t (truF f)
def EO (C : Cxt) (R : XR) (X : Cx) (E : XK) (e : Option Expr) (f : AEnv → Store → Rs (Option Int)) : Prop := ∃ t, PO X e t ∧ GoodO C R E t f
end Nv
/-! Nv: expressions: names, numbers, operators, comparisons, and, or, if. -/
namespace Nv
open PySem PySem.Spec PyProof.Rows L2
section
variable {C : Cxt} {H H' : Hp} {L L' : List Addr} {S S' : Store}
theorem Cell.lst {a : Addr} {xs : List D} (h : Cell C H L a (.lst xs)) : ∃ vs, H a = some (.lst vs) ∧ Reps C H L xs vs [] := by
  obtain ⟨ho, e, r⟩ := h
  cases r with
  | lst r => exact ⟨_, e, r⟩
theorem Cell.ins {a : Addr} {c : Nat} {fs : List (Nat × D)} (h : Cell C H L a (.ins c fs)) : ∃ dx vs, H a = some (.ins (C.CA c) dx vs) ∧ RepFs C H L fs vs [] ∧ c < C.nc := by
  obtain ⟨ho, e, r⟩ := h
  cases r with
  | ins q r => exact ⟨_, _, e, r, q⟩
theorem Cell.dct {a : Addr} {kvs : List (D × D)} (h : Cell C H L a (.dct kvs)) : ∃ vs, H a = some (.dK vs) ∧ RepKs C H L kvs vs [] := by
  obtain ⟨ho, e, r⟩ := h
  cases r with
  | dct r => exact ⟨_, e, r⟩
/-- the cell of a reference -/
theorem SimS.at (s : SimS C H L S) {n : Nat} {v : V} {F : List Addr} (r : Rep C H L (.ref n) v F) : F = [] ∧ ∃ a, v = .ref a ∧ L[n]? = some a ∧ ∀ o, S[n]? = some o → Cell C H L a o := by
  cases r with
  | ref h => exact ⟨rfl, _, rfl, h, fun o e => s.cell n o _ e h⟩
/-- a list's, a tuple's items -/
theorem seq_of (s : SimS C H L S) {x : D} {v : V} {F : List Addr} {xs : List D} (r : Rep C H L x v F) (h : seqOf x S = some xs) :
    ∃ a vs G, v = .ref a ∧ Reps C H L xs vs G ∧ G.Sublist F ∧ ((SqL C.K H a vs ∧ (∀ ys, x ≠ .tup ys)) ∨ (SqT C.K H a vs ∧ x = .tup xs)) := by
  cases r with
  | tup hq rs =>
    cases h
    exact ⟨_, _, _, rfl, rs, List.Sublist.refl _, .inr ⟨hq, rfl⟩⟩
  | new ha ro =>
    cases ro with
    | lst rs =>
      cases h
      exact ⟨_, _, _, rfl, rs, List.sublist_cons_self _ _, .inl ⟨SqL.of ha, fun ys q => nomatch q⟩⟩
    | dct _ => cases h
    | ins _ _ => cases h
  | ref hl =>
    rename_i n a
    have hc := s.cell n
    simp only [seqOf] at h
    cases e : S[n]? with
    | none => rw [e] at h; cases h
    | some o =>
      rw [e] at h
      have c := hc o a e hl
      cases o with
      | lst ys =>
        cases h
        obtain ⟨vs, e1, e2⟩ := c.lst
        exact ⟨a, vs, [], rfl, e2, List.Sublist.refl _, .inl ⟨SqL.of e1, fun ys q => nomatch q⟩⟩
      | frz ys =>
        cases h
        obtain ⟨ob, vs, e1, e2⟩ := c
        exact ⟨a, vs, [], rfl, e2, List.Sublist.refl _, .inl ⟨.inl (.inr ⟨ob, e1⟩), fun ys q => nomatch q⟩⟩
      | dct _ => cases h
      | ins _ _ => cases h
  | _ => cases h
theorem Fr.end {H H2 : Hp} {L L2 L' Z F : List Addr} (e : Ext H L H2 L2) (f : Fr H Z L2) (h1 : ∀ a ∈ F, a ∈ Z ∨ H2 a = none) (h2 : F.Nodup) (h3 : ∀ a ∈ F, a ∉ L') : Fr H F L' :=
  ⟨fun a ha => (h1 a ha).elim (f.new a) fun q => e.dom a q, h2, h3⟩
/-- the heap with a new object -/
theorem Ext.new {p : Addr} {o : HO} (hp : H p = none) : Ext H L (upd H p o) L := by
  refine ⟨⟨[], by simp, by simp⟩, fun a o _ h => ?_, fun b xs h => ?_, fun b o u h => ?_, fun a h => ?_⟩
  · rw [upd_ne (ne_of_none h hp)]; exact h
  · rw [upd_ne (ne_of_none h hp)]; exact h
  · rw [upd_ne (ne_of_none h hp)]; exact h
  · by_cases q : a = p
    · subst q; exact hp
    · rwa [upd_ne q] at h
theorem SimS.new (s : SimS C H L S) {p : Addr} {o : HO} (hp : H p = none) (hL : p ∉ L) : SimS C (upd H p o) L S := by
  refine ⟨s.len, s.nd, fun n c a h1 h2 => ?_⟩
  have k := s.cell n c a h1 h2
  have ne : a ≠ p := fun e => hL (e ▸ List.mem_of_getElem? h2)
  have car : Car H L (upd H p o) L [] := (Ext.new (L := L) hp).car0
  cases c with
  | frz xs =>
    obtain ⟨ob, vs, e1, e2⟩ := k
    exact ⟨ob, vs, by rw [upd_ne ne]; exact e1, e2.car car⟩
  | lst xs => obtain ⟨ho, e1, e2⟩ := k; exact ⟨ho, by rw [upd_ne ne]; exact e1, e2.car car⟩
  | dct xs => obtain ⟨ho, e1, e2⟩ := k; exact ⟨ho, by rw [upd_ne ne]; exact e1, e2.car car⟩
  | ins c xs => obtain ⟨ho, e1, e2⟩ := k; exact ⟨ho, by rw [upd_ne ne]; exact e1, e2.car car⟩
theorem SimS.notin (s : SimS C H L S) {p : Addr} (hp : H p = none) : p ∉ L := by
  intro hm
  obtain ⟨n, hn, e⟩ := List.mem_iff_getElem.mp hm
  have hn' : n < S.length := s.len ▸ hn
  have k := s.cell n S[n] p (List.getElem?_eq_getElem hn') (by rw [List.getElem?_eq_getElem hn, e])
  cases q : S[n] with
  | frz xs => rw [q] at k; obtain ⟨ob, vs, e1, _⟩ := k; rw [hp] at e1; cases e1
  | lst xs => rw [q] at k; obtain ⟨ho, e1, _⟩ := k; rw [hp] at e1; cases e1
  | dct xs => rw [q] at k; obtain ⟨ho, e1, _⟩ := k; rw [hp] at e1; cases e1
  | ins c xs => rw [q] at k; obtain ⟨ho, e1, _⟩ := k; rw [hp] at e1; cases e1
end

/-! ### a new list, a new tuple as the result -/
section
variable {C : Cxt} {H H2 : Hp} {L L2 : List Addr} {S2 : Store}
theorem post_lst {xs : List D} {vs : List V} {F : List Addr} {p : Addr} (e : Ext H L H2 L2) (s : SimS C H2 L2 S2) (r : Reps C H2 L2 xs vs F) (f : Fr H F L2) (hp : H2 p = none) :
    Post C H L S2 (.new (.lst xs)) (.ref p) (upd H2 p (.lst vs)) L2 (p :: F) := by
  have hn := s.notin hp
  have e2 : Ext H2 L2 (upd H2 p (.lst vs)) L2 := Ext.new hp
  refine ⟨e.trans e2, s.new hp hn, .new upd_same (.lst (r.car (e2.car f.out))), ⟨fun a ha => ?_, ?_, fun a ha => ?_⟩⟩
  · rcases List.mem_cons.mp ha with q | q
    · rw [q]; exact e.dom p hp
    · exact f.new a q
  · refine List.nodup_cons.mpr ⟨fun q => ?_, f.nd⟩
    obtain ⟨o, w⟩ := r.trk p q
    rw [hp] at w; cases w
  · rcases List.mem_cons.mp ha with q | q
    · rw [q]; exact hn
    · exact f.out a q
theorem post_tup {xs : List D} {vs : List V} {F : List Addr} {p : Addr} (e : Ext H L H2 L2) (s : SimS C H2 L2 S2) (r : Reps C H2 L2 xs vs F) (f : Fr H F L2) (hp : H2 p = none) :
    Post C H L S2 (.tup xs) (.ref p) (upd H2 p (.tup vs)) L2 F := by
  have hn := s.notin hp
  have e2 : Ext H2 L2 (upd H2 p (.tup vs)) L2 := Ext.new hp
  exact ⟨e.trans e2, s.new hp hn, .tup (SqT.of upd_same) (r.car (e2.car f.out)), f⟩
theorem post_same {d : D} {v : V} {F Z : List Addr} (e : Ext H L H2 L2) (s : SimS C H2 L2 S2) (r : Rep C H2 L2 d v F) (f : Fr H Z L2) (h : F.Sublist Z) : Post C H L S2 d v H2 L2 F :=
  ⟨e, s, r, fun a ha => f.new a (h.subset ha), f.nd.sublist h, fun a ha => f.out a (h.subset ha)⟩
end

section
variable {C : Cxt} {R : XR} {X : Cx} {E : XK} {pos : Pos}
/-! ### names, constants -/
theorem ee_var {i : Nat} {x : Str} (hN : X.N[i]? = some x) (hv : Vis X.env.scope x) (hd : (x == ("__debug__" : Str)) = false) (hcd : (x == ("__classdict__" : Str)) = false) :
    EE C R X E (.Name x pos) (fun ρ S => match ρ[i]? with
      | some (some d) => .ok d S
      | _ => .stuck) := by
  refine ⟨tVar i, pe_var hN hv hd hcd, fun σ H L ρ S Q s e h => ?_⟩
  dsimp only at h
  cases q : ρ[i]? with
  | none => rw [q] at h; exact h.elim
  | some o =>
    rw [q] at h
    cases o with
    | none => exact h.elim
    | some d =>
      obtain ⟨v, h1, h2⟩ := e.2 i d q
      exact ⟨v, h1, h v H L [] ⟨Ext.refl H L, s, h2, Fr.nil H L⟩⟩
theorem ee_c {c : Expr} {d : D} {v : V} (h : PE X c (tC v)) (r : ∀ H L, Rep C H L d v []) : EE C R X E c (fun _ S => .ok d S) :=
  ⟨tC v, h, fun σ H L ρ S Q s e h => h v H L [] ⟨Ext.refl H L, s, r H L, Fr.nil H L⟩⟩
/-- a constant of the module -/
theorem ee_glob {x : Str} {d : D} {v : V} {u : Value} (hg : Gl X x) (hm : X.mg x = some u) (ru : RelV v u) (hd : (x == ("__debug__" : Str)) = false) (r : ∀ H L, Rep C H L d v []) : EE C R X E (.Name x pos) (fun _ S => .ok d S) :=
  ee_c (pe_glob hg hm ru hd) r
/-! ### lists of expressions -/
theorem ea_nil : EA C R X E [] (fun _ S => .ok [] S) :=
  ⟨tNil, pa_nil, fun σ H L ρ S Q s e h => h [] H L [] ⟨Ext.refl H L, s, .nil, Fr.nil H L⟩⟩
theorem ea_cons {e : Expr} {es : List Expr} {f : AEnv → Store → Rs D} {g : AEnv → Store → Rs (List D)} (a : EE C R X E e f) (b : EA C R X E es g) (hs : starEach (e :: es) X.env = (false, eval e X.env) :: starEach es X.env) :
    EA C R X E (e :: es) (fun ρ S => (f ρ S).bind fun x S1 => (g ρ S1).bind fun xs S2 => .ok (x :: xs) S2) := by
  obtain ⟨ta, pa, ga⟩ := a
  obtain ⟨tb, pb, gb⟩ := b
  refine ⟨tCons ta tb, pa_cons pa pb hs, fun σ H L ρ S Q s e h => ?_⟩
  refine ga.first s e (fun _ _ z => z) h fun x S1 v H1 L1 F p1 e1 h1 => ?_
  refine gb.first p1.sim e1 (fun _ _ z => z.later p1.ext) h1 fun xs S2 vs H2 L2 G p2 e2 h2 => ?_
  exact h2 (v :: vs) H2 L2 (F ++ G) (.cons p1 p2)
theorem ee_tup {es : List Expr} {k : Nat} {g : AEnv → Store → Rs (List D)} (b : EA C R X E es g) :
    EE C R X E (.Tuple es k pos) (fun ρ S => (g ρ S).bind fun xs S1 => if xs.length ≤ sizeLine then .ok (.tup xs) S1 else .stuck) := by
  obtain ⟨tb, pb, gb⟩ := b
  refine ⟨tTup tb, pe_tup pb, fun σ H L ρ S Q s e h => ?_⟩
  refine gb.first s e (fun _ _ z => z) h fun xs S1 vs H1 L1 F p e1 h1 => ?_
  by_cases z : xs.length ≤ sizeLine
  · rw [if_pos z] at h1
    exact ⟨by rw [← p.rep.length]; exact z, fun q hq => h1 (.ref q) _ L1 F (post_tup p.ext p.sim p.rep p.fr hq)⟩
  · rw [if_neg z] at h1
    exact h1.elim
theorem ee_lst {es : List Expr} {g : AEnv → Store → Rs (List D)} (b : EA C R X E es g) :
    EE C R X E (.List es pos) (fun ρ S => (g ρ S).bind fun xs S1 => if xs.length ≤ sizeLine then .ok (.new (.lst xs)) S1 else .stuck) := by
  obtain ⟨tb, pb, gb⟩ := b
  refine ⟨tLst tb, pe_lst pb, fun σ H L ρ S Q s e h => ?_⟩
  refine gb.first s e (fun _ _ z => z) h fun xs S1 vs H1 L1 F p e1 h1 => ?_
  by_cases z : xs.length ≤ sizeLine
  · rw [if_pos z] at h1
    exact ⟨by rw [← p.rep.length]; exact z, fun q hq => h1 (.ref q) _ L1 (q :: F) (post_lst p.ext p.sim p.rep p.fr hq)⟩
  · rw [if_neg z] at h1
    exact h1.elim
/-! ### two operands -/
/-- an operation on two values agrees with r -/
def GoodR (C : Cxt) (r : R2) (g : D → D → Store → Option D) : Prop :=
  ∀ (H0 : Hp) (L0 : List Addr) (H : Hp) (L : List Addr) (S : Store) (x y : D) (vx vy : V) (F G : List Addr) (d : D) (Q : VK), Ext H0 L0 H L → SimS C H L S → Rep C H L x vx F → Rep C H L y vy G → Fr H0 (F ++ G) L → g x y S = some d →
    (∀ v H' L' Z, Ext H L H' L' → Post C H0 L0 S d v H' L' Z → Q v H') → r vx vy H Q
theorem ee_op2 {r : R2} {g : D → D → Store → Option D} {a b e : Expr} {fa fb : AEnv → Store → Rs D} (hr : GoodR C r g) (mk : ∀ ta tb, PE X a ta → PE X b tb → PE X e (tOp r ta tb)) (ha : EE C R X E a fa) (hb : EE C R X E b fb) :
    EE C R X E e (fun ρ S => (fa ρ S).bind fun x S1 => (fb ρ S1).bind fun y S2 => Rs.of (g x y S2) S2) := by
  obtain ⟨ta, pa, ga⟩ := ha
  obtain ⟨tb, pb, gb⟩ := hb
  refine ⟨tOp r ta tb, mk ta tb pa pb, fun σ H L ρ S Q s e h => ?_⟩
  refine ga.first s e (fun _ _ z => z) h fun x S1 v H1 L1 F p1 e1 h1 => ?_
  refine gb.first p1.sim e1 (fun _ _ z => z.later p1.ext) h1 fun y S2 w H2 L2 G p2 e2 h2 => ?_
  obtain ⟨d, hd, q⟩ := sat_of h2
  obtain ⟨x1, x2, x3⟩ := p1.seq p2
  exact hr H L H2 L2 S2 x y v w F G d Q x1 p2.sim x2 p2.rep x3 hd fun v H' L' Z _ p => q v H' L' Z p
end
end Nv
/-! Nv: operators and comparisons by values. -/
namespace Nv
open PySem PySem.Spec PyProof.Rows L2
section
variable {C : Cxt} {H : Hp} {L : List Addr} {S : Store}
theorem lst_of (s : SimS C H L S) {x : D} {v : V} {F : List Addr} {xs : List D} (r : Rep C H L x v F) (h : lstOf x S = some xs) :
    ∃ a vs G, v = .ref a ∧ Reps C H L xs vs G ∧ G.Sublist F ∧ H a = some (.lst vs) := by
  cases r with
  | new ha ro =>
    cases ro with
    | lst rs =>
      cases h
      exact ⟨_, _, _, rfl, rs, List.sublist_cons_self _ _, ha⟩
    | dct _ => cases h
    | ins _ _ => cases h
  | ref hl =>
    rename_i n a
    have hc := s.cell n
    simp only [lstOf] at h
    cases e : S[n]? with
    | none => rw [e] at h; cases h
    | some o =>
      rw [e] at h
      have c := hc o a e hl
      cases o with
      | lst ys =>
        cases h
        obtain ⟨vs, e1, e2⟩ := c.lst
        exact ⟨a, vs, [], rfl, e2, List.Sublist.refl _, e1⟩
      | frz ys => cases h
      | dct _ => cases h
      | ins _ _ => cases h
  | _ => cases h
theorem lis_of (s : SimS C H L S) {x : D} {v : V} {F : List Addr} {xs : List D} (r : Rep C H L x v F) (h : lisOf x S = some xs) :
    ∃ a vs G, v = .ref a ∧ Reps C H L xs vs G ∧ G.Sublist F ∧ SqL C.K H a vs := by
  cases r with
  | new ha ro =>
    cases ro with
    | lst rs =>
      cases h
      exact ⟨_, _, _, rfl, rs, List.sublist_cons_self _ _, SqL.of ha⟩
    | dct _ => cases h
    | ins _ _ => cases h
  | ref hl =>
    rename_i n a
    have hc := s.cell n
    simp only [lisOf] at h
    cases e : S[n]? with
    | none => rw [e] at h; cases h
    | some o =>
      rw [e] at h
      have c := hc o a e hl
      cases o with
      | lst ys =>
        cases h
        obtain ⟨vs, e1, e2⟩ := c.lst
        exact ⟨a, vs, [], rfl, e2, List.Sublist.refl _, SqL.of e1⟩
      | frz ys =>
        cases h
        obtain ⟨ob, vs, e1, e2⟩ := c
        exact ⟨a, vs, [], rfl, e2, List.Sublist.refl _, .inl (.inr ⟨ob, e1⟩)⟩
      | dct _ => cases h
      | ins _ _ => cases h
  | _ => cases h
theorem Reps.append : ∀ {xs ys : List D} {vs ws : List V} {F G : List Addr}, Reps C H L xs vs F → Reps C H L ys ws G → Reps C H L (xs ++ ys) (vs ++ ws) (F ++ G)
  | _, _, _, _, _, _, .nil, r => r
  | _, _, _, _, _, _, .cons a b, r => by rw [List.append_assoc]; exact .cons a (b.append r)
theorem Rep.int_inv {v : V} {F : List Addr} {i : Int} (r : Rep C H L (.int i) v F) : v = .int i ∧ F = [] := by cases r; exact ⟨rfl, rfl⟩
theorem Rep.str_inv {v : V} {F : List Addr} {i : Str} (r : Rep C H L (.str i) v F) : v = .str i ∧ F = [] := by cases r; exact ⟨rfl, rfl⟩
theorem Rep.bl_inv {v : V} {F : List Addr} {i : Bool} (r : Rep C H L (.bl i) v F) : v = .bl i ∧ F = [] := by cases r; exact ⟨rfl, rfl⟩
theorem Rep.non_inv {v : V} {F : List Addr} (r : Rep C H L .non v F) : v = .non ∧ F = [] := by cases r; exact ⟨rfl, rfl⟩
theorem Rep.tup_inv {v : V} {F : List Addr} {xs : List D} (r : Rep C H L (.tup xs) v F) : ∃ a vs, v = .ref a ∧ SqT C.K H a vs ∧ Reps C H L xs vs F := by
  cases r with
  | tup h r => exact ⟨_, _, rfl, h, r⟩
theorem ints_of : ∀ {xs : List D} {ns : List Int} {vs : List V} {F : List Addr}, intsOf xs = some ns → Reps C H L xs vs F → vs = ns.map V.int ∧ xs = ns.map D.int
  | [], ns, vs, F, h, r => by cases r; cases h; exact ⟨rfl, rfl⟩
  | x :: xs, ns, vs, F, h, r => by
    cases r with
    | cons a b =>
      cases x with
      | int i =>
        obtain ⟨rfl, _⟩ := a.int_inv
        cases q : intsOf xs with
        | none =>
          have h' : (intsOf xs).map (i :: ·) = some ns := h
          rw [q] at h'; cases h'
        | some ms =>
          have h' : (intsOf xs).map (i :: ·) = some ns := h
          rw [q] at h'; cases h'
          obtain ⟨e1, e2⟩ := ints_of q b
          exact ⟨by rw [e1]; rfl, by rw [e2]; rfl⟩
      | _ => cases h
theorem bls_of : ∀ {xs : List D} {ns : List Bool} {vs : List V} {F : List Addr}, blsOf xs = some ns → Reps C H L xs vs F → vs = ns.map V.bl ∧ xs = ns.map D.bl
  | [], ns, vs, F, h, r => by cases r; cases h; exact ⟨rfl, rfl⟩
  | x :: xs, ns, vs, F, h, r => by
    cases r with
    | cons a b =>
      cases x with
      | bl i =>
        obtain ⟨rfl, _⟩ := a.bl_inv
        cases q : blsOf xs with
        | none =>
          have h' : (blsOf xs).map (i :: ·) = some ns := h
          rw [q] at h'; cases h'
        | some ms =>
          have h' : (blsOf xs).map (i :: ·) = some ns := h
          rw [q] at h'; cases h'
          obtain ⟨e1, e2⟩ := bls_of q b
          exact ⟨by rw [e1]; rfl, by rw [e2]; rfl⟩
      | _ => cases h
mutual
theorem dp_of : ∀ (x : D) {v : V} {F : List Addr} {d : PyData}, Rep C H L x v F → dat x = some d → Dp C.K H v d
  | .non, _, _, _, r, h => by cases h; cases r; exact .non
  | .bl b, _, _, _, r, h => by cases h; cases r; exact .bl b
  | .int b, _, _, _, r, h => by cases h; cases r; exact .int b
  | .str b, _, _, _, r, h => by cases h; cases r; exact .str b
  | .tup xs, v, F, d, r, h => by
    cases q : dats xs with
    | none => simp only [dat, q] at h; cases h
    | some ds =>
      simp only [dat, q] at h; cases h
      obtain ⟨a, vs, rfl, ht, r⟩ := r.tup_inv
      exact .tup ht (dps_of xs r q)
  | .ref _, _, _, _, _, h => by cases h
  | .new o, v, F, d, r, h => by
    cases r with
    | new ha ro =>
      cases o with
      | lst xs =>
        cases ro with
        | lst rs =>
          cases q : dats xs with
          | none => simp only [dat, q] at h; cases h
          | some ds => simp only [dat, q] at h; cases h; exact .lst (SqL.of ha) (dps_of xs rs q)
      | _ => cases h
theorem dps_of : ∀ (x : List D) {v : List V} {F : List Addr} {d : List PyData}, Reps C H L x v F → dats x = some d → DpAll C.K H v d
  | [], _, _, _, r, h => by cases h; cases r; exact .nil
  | x :: xs, _, _, _, r, h => by
    cases r with
    | cons r s =>
      cases q : dat x with
      | none => simp only [dats, q] at h; cases h
      | some d =>
        cases q2 : dats xs with
        | none => simp only [dats, q, q2] at h; cases h
        | some ds => simp only [dats, q, q2] at h; cases h; exact .cons (dp_of x r q) (dps_of xs s q2)
end
theorem dpS_of (s : SimS C H L S) {x : D} {v : V} {F : List Addr} {d : PyData} (r : Rep C H L x v F) (h : datS S x = some d) : Dp C.K H v d := by
  cases x with
  | ref n =>
    simp only [datS] at h
    obtain ⟨_, a, rfl, hl, hc⟩ := s.at r
    cases e : S[n]? with
    | none => rw [e] at h; cases h
    | some o =>
      rw [e] at h
      have c := hc o e
      cases o with
      | lst ys =>
        obtain ⟨vs, e1, e2⟩ := c.lst
        cases q : dats ys with
        | none => simp only [q] at h; cases h
        | some ds => simp only [q] at h; cases h; exact .lst (SqL.of e1) (dps_of ys e2 q)
      | frz ys =>
        obtain ⟨ob, vs, e1, e2⟩ := c
        cases q : dats ys with
        | none => simp only [q] at h; cases h
        | some ds => simp only [q] at h; cases h; exact .lst (.inl (.inr ⟨ob, e1⟩)) (dps_of ys e2 q)
      | dct _ => cases h
      | ins _ _ => cases h
  | non => exact dp_of (.non) r h
  | bl b => exact dp_of (.bl b) r h
  | int i => exact dp_of (.int i) r h
  | str z => exact dp_of (.str z) r h
  | tup xs => exact dp_of (.tup xs) r h
  | new o => exact dp_of (.new o) r h
theorem scal_of {x : D} {v w : V} {F : List Addr} (r : Rep C H L x v F) (h : scalD x = some w) : v = w := by
  cases r <;> first
    | (cases h; rfl)
    | cases h
end
/-! ### operators -/
section
variable {C : Cxt} {X : Cx}
theorem good_int {Cn : Int → Int → Prop} {g : Int → Int → Int} {G : D → D → Store → Option D} (h : ∀ x y S d, G x y S = some d → ∃ i j, x = .int i ∧ y = .int j ∧ Cn i j ∧ d = .int (g i j)) : GoodR C (rI Cn fun i j => .int (g i j)) G := by
  intro H0 L0 H L S x y vx vy F Gg d Q e s rx ry fr hd q
  obtain ⟨i, j, rfl, rfl, c, rfl⟩ := h x y S d hd
  obtain ⟨rfl, rfl⟩ := rx.int_inv
  obtain ⟨rfl, rfl⟩ := ry.int_inv
  exact ⟨i, j, rfl, rfl, c, q _ H L [] (Ext.refl H L) (post_same e s (.int _) fr (List.nil_sublist _))⟩
theorem good_int0 {g : Int → Int → Int} {G : D → D → Store → Option D} (h : ∀ x y S d, G x y S = some d → ∃ i j, x = .int i ∧ y = .int j ∧ d = .int (g i j)) : GoodR C (rI0 fun i j => .int (g i j)) G := by
  intro H0 L0 H L S x y vx vy F Gg d Q e s rx ry fr hd q
  obtain ⟨i, j, rfl, rfl, rfl⟩ := h x y S d hd
  obtain ⟨rfl, rfl⟩ := rx.int_inv
  obtain ⟨rfl, rfl⟩ := ry.int_inv
  exact ⟨i, j, rfl, rfl, q _ H L [] (Ext.refl H L) (post_same e s (.int _) fr (List.nil_sublist _))⟩
def rAdd (K : PySem.W.Frag) : R2 := fun x y H Q => (rI0 fun i j => .int (i + j)) x y H Q ∨ (∃ i j, x = .str i ∧ y = .str j ∧ i.length + j.length ≤ sizeLine ∧ Q (.str (i ++ j)) H) ∨ rCatA K x y H Q ∨ rCat x y H Q
theorem op_addN : OpR X (binaryOp .Add) (rAdd X.K) := op_add.or (op_add_str.or (op_catA.or op_cat))
theorem good_add : GoodR C (rAdd C.K) (binD .add) := by
  intro H0 L0 H L S x y vx vy F G d Q e s rx ry fr hd q
  have lists : ∀ xs ys, lstOf x S = some xs → lstOf y S = some ys → (if xs.length + ys.length ≤ sizeLine then some (D.new (.lst (xs ++ ys))) else none) = some d → rAdd C.K vx vy H Q := by
    intro xs ys hx hy hd
    obtain ⟨a, vs, F', rfl, r1, f1, h1⟩ := lst_of s rx hx
    obtain ⟨b, ws, G', rfl, r2, f2, h2⟩ := lst_of s ry hy
    by_cases z : xs.length + ys.length ≤ sizeLine
    · rw [if_pos z] at hd
      cases hd
      refine .inr (.inr (.inr ⟨a, b, vs, ws, rfl, rfl, h1, h2, by rw [← r1.length, ← r2.length]; exact z, fun p hp => ?_⟩))
      have sub : (F' ++ G').Sublist (F ++ G) := f1.append f2
      exact q _ _ L _ (Ext.new hp) (post_lst e s (r1.append r2) ⟨fun a ha => fr.new a (sub.subset ha), fr.nd.sublist sub, fun a ha => fr.out a (sub.subset ha)⟩ hp)
    · rw [if_neg z] at hd; cases hd
  cases x with
  | int i =>
    cases y with
    | int j =>
      cases hd
      obtain ⟨rfl, rfl⟩ := rx.int_inv
      obtain ⟨rfl, rfl⟩ := ry.int_inv
      exact .inl ⟨i, j, rfl, rfl, q _ H L [] (Ext.refl H L) (post_same e s (.int _) fr (List.nil_sublist _))⟩
    | _ => cases hd
  | str a =>
    cases y with
    | str b =>
      by_cases z : a.length + b.length ≤ sizeLine
      · simp only [binD, if_pos z] at hd
        cases hd
        obtain ⟨rfl, rfl⟩ := rx.str_inv
        obtain ⟨rfl, rfl⟩ := ry.str_inv
        exact .inr (.inl ⟨a, b, rfl, rfl, z, q _ H L [] (Ext.refl H L) (post_same e s (.str _) fr (List.nil_sublist _))⟩)
      · simp only [binD, if_neg z] at hd; cases hd
    | _ => cases hd
  | tup xs =>
    cases y with
    | tup ys =>
      by_cases z : xs.length + ys.length ≤ sizeLine
      · simp only [binD, if_pos z] at hd
        cases hd
        obtain ⟨a, vs, rfl, h1, r1⟩ := rx.tup_inv
        obtain ⟨b, ws, rfl, h2, r2⟩ := ry.tup_inv
        have r3 := r1.append r2
        refine .inr (.inr (.inl ⟨a, b, vs, ws, rfl, rfl, h1, h2, by rw [← r1.length, ← r2.length]; exact z, fun k => ?_, fun k1 k2 => ?_, fun k1 k2 p hp => ?_⟩))
        · subst k
          cases r1
          exact q _ H L G (Ext.refl H L) (post_same e s (.tup h2 r2) fr (List.sublist_append_right _ _))
        · subst k2
          cases r2
          rw [List.append_nil] at q
          exact q _ H L F (Ext.refl H L) (post_same e s (.tup h1 r1) fr (List.sublist_append_left _ _))
        · exact q _ _ L _ (Ext.new hp) (post_tup e s r3 fr hp)
      · simp only [binD, if_neg z] at hd; cases hd
    | _ => cases hd
  | non => cases y <;> cases hd
  | bl b => cases y <;> cases hd
  | ref n =>
    have hd' : (match lstOf (.ref n) S, lstOf y S with
    | some xs, some ys => if xs.length + ys.length ≤ sizeLine then some (D.new (.lst (xs ++ ys))) else none
    | _, _ => none) = some d := by cases y <;> exact hd
    cases hx : lstOf (.ref n) S with
    | none => rw [hx] at hd'; cases hd'
    | some xs =>
      cases hy : lstOf y S with
      | none => rw [hx, hy] at hd'; cases hd'
      | some ys => rw [hx, hy] at hd'; exact lists xs ys hx hy hd'
  | new o =>
    have hd' : (match lstOf (.new o) S, lstOf y S with
    | some xs, some ys => if xs.length + ys.length ≤ sizeLine then some (D.new (.lst (xs ++ ys))) else none
    | _, _ => none) = some d := by cases y <;> exact hd
    cases hx : lstOf (.new o) S with
    | none => rw [hx] at hd'; cases hd'
    | some xs =>
      cases hy : lstOf y S with
      | none => rw [hx, hy] at hd'; cases hd'
      | some ys => rw [hx, hy] at hd'; exact lists xs ys hx hy hd'
theorem good_sub : GoodR C (rI0 fun i j => .int (i - j)) (binD .sub) := good_int0 fun x y S d h => by
  cases x <;> cases y <;> first
    | (cases h; exact ⟨_, _, rfl, rfl, rfl⟩)
    | cases h
theorem good_mul : GoodR C (rI CMulW fun i j => .int (i * j)) (binD .mul) := good_int fun x y S d h => by
  cases x <;> cases y <;> first
    | cases h; done
    | (rename_i i j
       by_cases z : i.natAbs.log2 + j.natAbs.log2 < 1000000
       · simp only [binD, if_pos z] at h; cases h; exact ⟨_, _, rfl, rfl, z, rfl⟩
       · simp only [binD, if_neg z] at h; cases h)
theorem good_fdiv : GoodR C (rI CDivW fun i j => .int (i / j)) (binD .fdiv) := good_int fun x y S d h => by
  cases x <;> cases y <;> first
    | cases h; done
    | (rename_i i j
       by_cases z : 0 < j ∧ j.natAbs.log2 < 9000
       · simp only [binD, if_pos z] at h; cases h; exact ⟨_, _, rfl, rfl, z, rfl⟩
       · simp only [binD, if_neg z] at h; cases h)
theorem good_mod : GoodR C (rI (fun _ j => 0 < j) fun i j => .int (i % j)) (binD .mod) := good_int fun x y S d h => by
  cases x <;> cases y <;> first
    | cases h; done
    | (rename_i i j
       by_cases z : 0 < j
       · simp only [binD, if_pos z] at h; cases h; exact ⟨_, _, rfl, rfl, z, rfl⟩
       · simp only [binD, if_neg z] at h; cases h)
theorem good_pow : GoodR C (rI CPow fun i j => .int (i ^ j.toNat)) (binD .pow) := good_int fun x y S d h => by
  cases x <;> cases y <;> first
    | cases h; done
    | (rename_i i j
       by_cases z : 0 ≤ j ∧ j ≤ 1000000 ∧ i.natAbs < 2 ^ 64
       · simp only [binD, if_pos z] at h; cases h; exact ⟨_, _, rfl, rfl, z, rfl⟩
       · simp only [binD, if_neg z] at h; cases h)
def bopP : Bop → Operator
  | .add => .Add | .sub => .Sub | .mul => .Mult | .fdiv => .FloorDiv | .mod => .Mod | .pow => .Pow
theorem bop_ok (o : Bop) (hK : X.K = C.K) : ∃ r, OpR X (binaryOp (bopP o)) r ∧ GoodR C r (binD o) := by
  cases o with
  | add => exact ⟨rAdd C.K, hK ▸ op_addN, good_add⟩
  | sub => exact ⟨_, op_sub, good_sub⟩
  | mul => exact ⟨_, op_mulW, good_mul⟩
  | fdiv => exact ⟨_, op_fdivW, good_fdiv⟩
  | mod => exact ⟨_, op_mod, good_mod⟩
  | pow => exact ⟨_, op_pow, good_pow⟩
/-! ### comparisons -/
theorem good_bl {r : R2} {G : D → D → Store → Option Bool}
    (h : ∀ (H : Hp) (L : List Addr) (S : Store) (x y : D) (vx vy : V) (F F' : List Addr) (b : Bool) (Q : VK), SimS C H L S → Rep C H L x vx F → Rep C H L y vy F' → G x y S = some b → Q (.bl b) H → r vx vy H Q) : GoodR C r (fun x y S => (G x y S).map .bl) := by
  intro H0 L0 H L S x y vx vy F Gg d Q e s rx ry fr hd q
  cases hb : G x y S with
  | none => simp only [hb] at hd; cases hd
  | some b =>
    simp only [hb] at hd
    cases hd
    exact h H L S x y vx vy F Gg b Q s rx ry hb (q _ H L [] (Ext.refl H L) (post_same e s (.bl _) fr (List.nil_sublist _)))
def rEqN (K : PySem.W.Frag) : R2 := fun x y H Q => rEq x y H Q ∨ rEqD K x y H Q
def rNeN (K : PySem.W.Frag) : R2 := fun x y H Q => rNe x y H Q ∨ rNeD K x y H Q
theorem eq_cases {H : Hp} {L : List Addr} {S : Store} {x y : D} {vx vy : V} {F F' : List Addr} {b : Bool} (s : SimS C H L S) (rx : Rep C H L x vx F) (ry : Rep C H L y vy F') (h : eqD x y S = some b) :
    (scal vx vy = true ∧ b = decide (vx = vy)) ∨ ∃ d e, Dp C.K H vx d ∧ Dp C.K H vy e ∧ SeqAt.shaped d = true ∧ SeqAt.shaped e = true ∧ b = PyData.eqv d e := by
  have data : (match datS S x, datS S y with
    | some d, some e => if SeqAt.shaped d = true ∧ SeqAt.shaped e = true then some (PyData.eqv d e) else none
    | _, _ => none) = some b → ∃ d e, Dp C.K H vx d ∧ Dp C.K H vy e ∧ SeqAt.shaped d = true ∧ SeqAt.shaped e = true ∧ b = PyData.eqv d e := by
    intro h
    cases h1 : datS S x with
    | none => rw [h1] at h; cases h
    | some d =>
      cases h2 : datS S y with
      | none => rw [h1, h2] at h; cases h
      | some e =>
        rw [h1, h2] at h
        by_cases z : SeqAt.shaped d = true ∧ SeqAt.shaped e = true
        · simp only [if_pos z] at h
          cases h
          exact ⟨d, e, dpS_of s rx h1, dpS_of s ry h2, z.1, z.2, rfl⟩
        · simp only [if_neg z] at h; cases h
  unfold eqD at h
  cases h1 : scalD x with
  | none => rw [h1] at h; exact .inr (data h)
  | some a =>
    cases h2 : scalD y with
    | none => rw [h1, h2] at h; exact .inr (data h)
    | some b' =>
      rw [h1, h2] at h
      have e1 := scal_of rx h1
      have e2 := scal_of ry h2
      subst e1 e2
      by_cases z : scal vx vy = true
      · simp only [if_pos z] at h; cases h; exact .inl ⟨z, rfl⟩
      · simp only [if_neg z] at h; cases h
theorem good_eq : GoodR C (rEqN C.K) (fun x y S => (cmpD .eq x y S).map .bl) := good_bl fun H L S x y vx vy F F' b Q s rx ry h q => by
  have h' : eqD x y S = some b := by cases x <;> cases y <;> exact h
  rcases eq_cases s rx ry h' with ⟨h1, rfl⟩ | ⟨d, e, h1, h2, h3, h4, rfl⟩
  · exact .inl ⟨h1, q⟩
  · exact .inr ⟨d, e, h1, h2, h3, h4, q⟩
theorem good_ne : GoodR C (rNeN C.K) (fun x y S => (cmpD .ne x y S).map .bl) := good_bl fun H L S x y vx vy F F' b Q s rx ry h q => by
  have h' : (eqD x y S).map not = some b := by cases x <;> cases y <;> exact h
  cases ec : eqD x y S with
  | none => rw [ec] at h'; cases h'
  | some c =>
    rw [ec] at h'
    cases h'
    rcases eq_cases s rx ry ec with ⟨h1, rfl⟩ | ⟨d, e, h1, h2, h3, h4, rfl⟩
    · exact .inl ⟨h1, q⟩
    · exact .inr ⟨d, e, h1, h2, h3, h4, q⟩
theorem good_cmpI {o : Cop} {g : Int → Int → Bool} (h : ∀ x y S b, cmpD o x y S = some b → ∃ i j, x = .int i ∧ y = .int j ∧ b = g i j) : GoodR C (rI0 fun i j => .bl (g i j)) (fun x y S => (cmpD o x y S).map .bl) := good_bl fun H L S x y vx vy F F' b Q s rx ry hb q => by
  obtain ⟨i, j, rfl, rfl, rfl⟩ := h x y S b hb
  obtain ⟨rfl, rfl⟩ := rx.int_inv
  obtain ⟨rfl, rfl⟩ := ry.int_inv
  exact ⟨i, j, rfl, rfl, q⟩
theorem cmpI_inv {o : Cop} {g : Int → Int → Bool} (ho : o = .lt ∧ g = (fun i j => decide (i < j)) ∨ o = .le ∧ g = (fun i j => decide (i ≤ j)) ∨ o = .gt ∧ g = (fun i j => decide (j < i)) ∨ o = .ge ∧ g = (fun i j => decide (j ≤ i))) (x y : D) (S : Store) (b : Bool) (h : cmpD o x y S = some b) : ∃ i j, x = .int i ∧ y = .int j ∧ b = g i j := by
  rcases ho with ⟨rfl, rfl⟩ | ⟨rfl, rfl⟩ | ⟨rfl, rfl⟩ | ⟨rfl, rfl⟩ <;> (cases x <;> cases y <;> first
    | (cases h; exact ⟨_, _, rfl, rfl, rfl⟩)
    | cases h)
theorem non_iff {H : Hp} {L : List Addr} {x : D} {v : V} {F : List Addr} (r : Rep C H L x v F) : (match x with
    | .non => true
    | _ => false) = decide (v = .non) := by
  cases r <;> simp
theorem good_isN : GoodR C (fun x y H Q => y = .non ∧ Q (.bl (decide (x = .non))) H) (fun x y S => (cmpD .isN x y S).map .bl) := good_bl fun H L S x y vx vy F F' b Q s rx ry hb q => by
  cases y with
  | non =>
    obtain ⟨rfl, _⟩ := ry.non_inv
    refine ⟨rfl, ?_⟩
    have e := non_iff rx
    have e2 : b = decide (vx = .non) := by
      rw [← e]
      cases x <;> (cases hb; rfl)
    rw [← e2]; exact q
  | _ => cases x <;> cases hb
theorem good_notN : GoodR C (fun x y H Q => y = .non ∧ Q (.bl (!decide (x = .non))) H) (fun x y S => (cmpD .notN x y S).map .bl) := good_bl fun H L S x y vx vy F F' b Q s rx ry hb q => by
  cases y with
  | non =>
    obtain ⟨rfl, _⟩ := ry.non_inv
    refine ⟨rfl, ?_⟩
    have e := non_iff rx
    have e2 : b = !decide (vx = .non) := by
      rw [← e]
      cases x <;> (cases hb; rfl)
    rw [← e2]; exact q
  | _ => cases x <;> cases hb
def copP : Cop → CmpOp
  | .eq => .Eq | .ne => .NotEq | .lt => .Lt | .le => .LtE | .gt => .Gt | .ge => .GtE | .inn => .In | .nin => .NotIn | .isN => .Is | .notN => .IsNot
theorem cop_ok (o : Cop) (hK : X.K = C.K) (hu : X.A.units + 64 < cLine) : ∃ r, OpR X (compareOp (copP o)) r ∧ GoodR C r (fun x y S => (cmpD o x y S).map .bl) := by
  cases o with
  | eq => exact ⟨rEqN C.K, hK ▸ op_eq.or (op_eqD hu), good_eq⟩
  | ne => exact ⟨rNeN C.K, hK ▸ op_ne.or (op_neD hu), good_ne⟩
  | lt => exact ⟨_, op_lt, good_cmpI (cmpI_inv (.inl ⟨rfl, rfl⟩))⟩
  | le => exact ⟨_, op_le, good_cmpI (cmpI_inv (.inr (.inl ⟨rfl, rfl⟩)))⟩
  | gt => exact ⟨_, op_gt, good_cmpI (cmpI_inv (.inr (.inr (.inl ⟨rfl, rfl⟩))))⟩
  | ge => exact ⟨_, op_ge, good_cmpI (cmpI_inv (.inr (.inr (.inr ⟨rfl, rfl⟩))))⟩
  | isN => exact ⟨_, op_isN, good_isN⟩
  | notN => exact ⟨_, op_notN, good_notN⟩
  | inn => exact ⟨fun _ _ _ _ => False, fun _ _ _ _ _ _ _ _ _ _ _ _ h => h.elim, good_bl fun H L S x y vx vy F F' b Q s rx ry hb q => by cases x <;> cases y <;> cases hb⟩
  | nin => exact ⟨fun _ _ _ _ => False, fun _ _ _ _ _ _ _ _ _ _ _ _ h => h.elim, good_bl fun H L S x y vx vy F F' b Q s rx ry hb q => by cases x <;> cases y <;> cases hb⟩
end
end Nv
/-! Nv: expressions, further: tests, and, or, not, if, items, slices, fields, built-in functions. -/
namespace Nv
open PySem PySem.Spec PyProof.Rows L2
section
variable {C : Cxt} {R : XR} {X : Cx} {E : XK} {pos : Pos} {a b c e : Expr} {fa fb fc : AEnv → Store → Rs D}
theorem ee_bin (o : Bop) (hK : X.K = C.K) (ha : EE C R X E a fa) (hb : EE C R X E b fb) :
    EE C R X E (.BinOp a (bopP o) b pos) (fun ρ S => (fa ρ S).bind fun x S1 => (fb ρ S1).bind fun y S2 => Rs.of (binD o x y S2) S2) := by
  obtain ⟨r, h1, h2⟩ := bop_ok (C := C) (X := X) o hK
  exact ee_op2 h2 (fun ta tb pa pb => pe_op h1 pa pb) ha hb
theorem nomark' (o : CmpOp) (b : Expr) (h : ∀ es k p, b ≠ .Set es k p) : behindInMarks o b = false := by
  cases b <;> first
    | rfl
    | exact absurd rfl (h _ _ _)
theorem ee_cmp (o : Cop) (hK : X.K = C.K) (hu : X.A.units + 64 < cLine) (hs : ∀ es k p, b ≠ .Set es k p) (ha : EE C R X E a fa) (hb : EE C R X E b fb) :
    EE C R X E (.Compare a [copP o] [b] pos) (fun ρ S => (fa ρ S).bind fun x S1 => (fb ρ S1).bind fun y S2 => Rs.of ((cmpD o x y S2).map .bl) S2) := by
  obtain ⟨r, h1, h2⟩ := cop_ok (C := C) (X := X) o hK hu
  exact ee_op2 h2 (fun ta tb pa pb => pe_cmpR h1 pa pb (nomark' _ _ hs)) ha hb
theorem ee_neg (ha : EE C R X E a fa) : EE C R X E (.UnaryOp .USub a pos) (fun ρ S => (fa ρ S).bind fun x S1 => match x with
    | .int i => .ok (.int (-i)) S1
    | _ => .stuck) := by
  obtain ⟨ta, pa, ga⟩ := ha
  refine ⟨_, pe_un un_neg pa, fun σ H L ρ S Q s e h => ?_⟩
  refine ga.first s e (fun _ _ z => z) h fun x S1 v H1 L1 F p1 e1 h1 => ?_
  cases x with
  | int i =>
    obtain ⟨rfl, rfl⟩ := p1.rep.int_inv
    exact ⟨i, rfl, h1 _ H1 L1 [] ⟨p1.ext, p1.sim, .int _, Fr.nil _ _⟩⟩
  | _ => exact h1.elim
/-! ### truth -/
theorem tru_of {H : Hp} {L : List Addr} {S : Store} (s : SimS C H L S) {x : D} {v : V} {F : List Addr} {k : Bool} (r : Rep C H L x v F) (h : truD x S = some k) : TruV C.K v H k := by
  have emp : ∀ {xs : List D} {vs : List V} {F : List Addr}, Reps C H L xs vs F → (!xs.isEmpty) = (!vs.isEmpty) := fun r => by cases r <;> rfl
  have empK : ∀ {xs : List (D × D)} {vs : List (Key × V)} {F : List Addr}, RepKs C H L xs vs F → (!xs.isEmpty) = (!vs.isEmpty) := fun r => by cases r <;> rfl
  cases r with
  | non => cases h; rfl
  | bl b => cases h; rfl
  | int i => cases h; rfl
  | str z =>
    by_cases q : z.length ≤ sizeLine
    · simp only [truD, if_pos q] at h; cases h; exact ⟨q, rfl⟩
    · simp only [truD, if_neg q] at h; cases h
  | tup ht rs => cases h; exact .inr (.inl ⟨_, ht, emp rs⟩)
  | ref hl =>
    rename_i n a
    have hc := s.cell n
    simp only [truD] at h
    cases e : S[n]? with
    | none => rw [e] at h; cases h
    | some o =>
      rw [e] at h
      have c := hc o a e hl
      cases o with
      | lst ys =>
        cases h
        obtain ⟨vs, e1, e2⟩ := c.lst
        exact .inl ⟨vs, SqL.of e1, emp e2⟩
      | frz ys =>
        cases h
        obtain ⟨ob, vs, e1, e2⟩ := c
        exact .inl ⟨vs, .inl (.inr ⟨ob, e1⟩), emp e2⟩
      | dct kvs =>
        cases h
        obtain ⟨vs, e1, e2⟩ := c.dct
        exact .inr (.inr ⟨vs, e1, empK e2⟩)
      | ins _ _ => cases h
  | new ha ro =>
    cases ro with
    | lst rs => cases h; exact .inl ⟨_, SqL.of ha, emp rs⟩
    | dct rs => cases h; exact .inr (.inr ⟨_, ha, empK rs⟩)
    | ins _ _ => cases h
def plainT : Expr → Bool
  | .UnaryOp .Not _ _ => false
  | .BoolOp .. => false
  | .IfExp .. => false
  | .Compare .. => false
  | _ => true
theorem plainT_eq {e : Expr} {env : Env} (h : plainT e = true) (whole : Sem Value) : isTrue e env whole = (do let v ← whole; standAt e.pos; holding [v] (truthy v)) := by
  cases e <;> first
    | rfl
    | cases h
    | (rename_i op _ _; cases op <;> first | rfl | cases h)
theorem et_plain (hK : X.K = C.K) (hp : plainT a = true) (ha : EE C R X E a fa) : ET C R X E a fa := by
  obtain ⟨ta, pa, ga⟩ := ha
  refine ⟨_, pt_truth pa (plainT_eq hp), fun σ H L ρ S Q s e h => ?_⟩
  refine ga.first s e (fun _ _ z => z) h fun x S1 v H1 L1 F p1 e1 h1 => ?_
  obtain ⟨k, hk, q⟩ := sat_of h1
  exact ⟨k, hK ▸ tru_of p1.sim p1.rep hk, q H1 L1 p1.ext p1.sim⟩
theorem et_cmp (o : Cop) (hK : X.K = C.K) (hu : X.A.units + 64 < cLine) (hs : ∀ es k p, b ≠ .Set es k p) (ha : EE C R X E a fa) (hb : EE C R X E b fb) :
    ET C R X E (.Compare a [copP o] [b] pos) (fun ρ S => (fa ρ S).bind fun x S1 => (fb ρ S1).bind fun y S2 => Rs.of ((cmpD o x y S2).map .bl) S2) := by
  obtain ⟨r, h1, h2⟩ := cop_ok (C := C) (X := X) o hK hu
  obtain ⟨ta, pa, ga⟩ := ha
  obtain ⟨tb, pb, gb⟩ := hb
  refine ⟨_, pt_cmpR h1 pa pb (nomark' _ _ hs), fun σ H L ρ S Q s e h => ?_⟩
  have h' := sat_bind h
  refine ga.first s e (fun _ _ z => z) h' fun x S1 v H1 L1 F p1 e1 h1 => ?_
  refine gb.first p1.sim e1 (fun _ _ z => z.later p1.ext) h1 fun y S2 w H2 L2 G p2 e2 h3 => ?_
  obtain ⟨d, hd, q⟩ := sat_of h3
  obtain ⟨x1, x2, x3⟩ := p1.seq p2
  refine h2 H L H2 L2 S2 x y v w F G d _ x1 p2.sim x2 p2.rep x3 hd fun z H' L' Z _ pz => ?_
  cases hc : cmpD o x y S2 with
  | none => simp only [hc] at hd; cases hd
  | some k =>
    simp only [hc] at hd
    cases hd
    obtain ⟨rfl, rfl⟩ := pz.rep.bl_inv
    exact ⟨k, rfl, q H' L' pz.ext pz.sim⟩
theorem Ext.out {H H' : Hp} {L L' : List Addr} (e : Ext H L H' L') {a : Addr} {o : HO} (h : H a = some o) (hn : a ∉ L) : a ∉ L' := by
  obtain ⟨M, em, nm⟩ := e.pre
  rw [em]
  intro hm
  rcases List.mem_append.mp hm with q' | q'
  · exact hn q'
  · rw [nm a q'] at h; cases h
theorem Fr.over {H H2 H3 : Hp} {L2 L3 Z : List Addr} (f : Fr H Z L2) (tr : ∀ a ∈ Z, ∃ o, H2 a = some o) (e : Ext H2 L2 H3 L3) : Fr H Z L3 :=
  ⟨f.new, f.nd, fun a ha => let ⟨_, ho⟩ := tr a ha; e.out ho (f.out a ha)⟩
theorem Fr.sub {H : Hp} {L Z W : List Addr} (f : Fr H Z L) (h : W.Sublist Z) : Fr H W L := ⟨fun a ha => f.new a (h.subset ha), f.nd.sublist h, fun a ha => f.out a (h.subset ha)⟩
/-! ### a op b op c -/
def chainF (o p : Cop) (fa fb fc : AEnv → Store → Rs D) : AEnv → Store → Rs D := fun ρ S => (fa ρ S).bind fun x S1 => (fb ρ S1).bind fun y S2 => match cmpD o x y S2 with
    | some true => (fc ρ S2).bind fun z S3 => Rs.of ((cmpD p y z S3).map .bl) S3
    | some false => .ok (.bl false) S2
    | none => .stuck
theorem good_chain (o p : Cop) {r r' : R2} {ta tb tc : TE} (h2 : GoodR C r (fun x y S => (cmpD o x y S).map .bl)) (h2' : GoodR C r' (fun x y S => (cmpD p x y S).map .bl)) (ga : GoodE C R E ta fa) (gb : GoodE C R E tb fb) (gc : GoodE C R E tc fc) :
    GoodE C R E (tChain r r' ta tb tc) (chainF o p fa fb fc) := by
  intro σ H L ρ S Q s e h
  refine ga.first s e (fun _ _ z => z) h fun x S1 v H1 L1 F p1 e1 h1 => ?_
  refine gb.first p1.sim e1 (fun _ _ z => z.later p1.ext) h1 fun y S2 w H2 L2 G p2 e2 h3 => ?_
  obtain ⟨x1, x2, x3⟩ := p1.seq p2
  cases hc : cmpD o x y S2 with
  | none => rw [hc] at h3; exact h3.elim
  | some k =>
    rw [hc] at h3
    refine h2 H L H2 L2 S2 x y v w F G (.bl k) _ x1 p2.sim x2 p2.rep x3 (by simp only [hc] <;> rfl) fun z H3 L3 Z e3 pz => ?_
    obtain ⟨rfl, rfl⟩ := pz.rep.bl_inv
    refine ⟨k, rfl, ?_⟩
    cases k with
    | false =>
      rw [if_neg Bool.false_ne_true]
      exact h3 _ H3 L3 [] pz
    | true =>
      rw [if_pos rfl]
      refine gc.first pz.sim (e2.ext e3) (fun _ _ z => z.later pz.ext) h3 fun z S3 u H4 L4 G' p4 e4 h4 => ?_
      obtain ⟨d, hd, q⟩ := sat_of h4
      have t2 : ∀ a ∈ F ++ G, ∃ o, H2 a = some o := fun a ha => (List.mem_append.mp ha).elim (x2.trk a) (p2.rep.trk a)
      have t3 : ∀ a ∈ F ++ G, ∃ o, H3 a = some o := fun a ha => let ⟨o, ho⟩ := t2 a ha; ⟨o, e3.frame a o (x3.out a ha) ho⟩
      have f3 : Fr H (F ++ G) L3 := x3.over t2 e3
      have f4 : Fr H ((F ++ G) ++ G') L4 := Fr.later (x1.trans e3) f3 t3 p4.ext p4.fr
      have y4 : Rep C H4 L4 y w G := (p2.rep.car (e3.car p2.fr.out)).car (p4.ext.car fun a ha => f3.out a (List.mem_append_right _ ha))
      have sub : (G ++ G').Sublist ((F ++ G) ++ G') := by
        rw [List.append_assoc]; exact List.sublist_append_right _ _
      exact h2' H L H4 L4 S3 y z w u G G' d Q (pz.ext.trans p4.ext) p4.sim y4 p4.rep (f4.sub sub) hd fun v' H' L' Z _ p => q v' H' L' Z p
theorem lastM {o p : Cop} (hs : ∀ es k q, c ≠ .Set es k q) : lastMarks [copP o, copP p] [b, c] = false := nomark' _ _ hs
theorem ee_chain (o p : Cop) (hK : X.K = C.K) (hu : X.A.units + 64 < cLine) (hs : ∀ es k p, c ≠ .Set es k p) (ha : EE C R X E a fa) (hb : EE C R X E b fb) (hc : EE C R X E c fc) :
    EE C R X E (.Compare a [copP o, copP p] [b, c] pos) (chainF o p fa fb fc) := by
  obtain ⟨r, h1, h2⟩ := cop_ok (C := C) (X := X) o hK hu
  obtain ⟨r', h1', h2'⟩ := cop_ok (C := C) (X := X) p hK hu
  obtain ⟨ta, pa, ga⟩ := ha
  obtain ⟨tb, pb, gb⟩ := hb
  obtain ⟨tc, pc, gc⟩ := hc
  exact ⟨_, pe_chain h1 h1' pa pb pc (lastM hs), good_chain o p h2 h2' ga gb gc⟩
/-- what gives a truth, as a test -/
theorem good_test {t : TE} {f : AEnv → Store → Rs D} (g : GoodE C R E t f) (hb : ∀ ρ S d S', f ρ S = .ok d S' → ∃ k, d = .bl k) : GoodT C R E (tTest t) (truF f) := by
  intro σ H L ρ S Q s e h
  refine g σ H L ρ S _ s e ?_
  have h' := sat_bind h
  cases hf : f ρ S with
  | ok d S' =>
    rw [hf] at h'
    obtain ⟨k, rfl⟩ := hb ρ S d S' hf
    intro v H' L' F p
    obtain ⟨rfl, rfl⟩ := p.rep.bl_inv
    exact ⟨k, rfl, h' H' L' p.ext p.sim⟩
  | ex x S' => rw [hf] at h'; exact h'
  | stuck => rw [hf] at h'; exact h'
theorem rs_of_bl {o : Option Bool} {S : Store} {d : D} {S' : Store} (h : Rs.of (o.map .bl) S = .ok d S') : ∃ k, d = .bl k := by
  cases o with
  | none => cases h
  | some k => cases h; exact ⟨k, rfl⟩
theorem et_chain (o p : Cop) (hK : X.K = C.K) (hu : X.A.units + 64 < cLine) (hs : ∀ es k p, c ≠ .Set es k p) (ha : EE C R X E a fa) (hb : EE C R X E b fb) (hc : EE C R X E c fc) :
    ET C R X E (.Compare a [copP o, copP p] [b, c] pos) (chainF o p fa fb fc) := by
  obtain ⟨r, h1, h2⟩ := cop_ok (C := C) (X := X) o hK hu
  obtain ⟨r', h1', h2'⟩ := cop_ok (C := C) (X := X) p hK hu
  obtain ⟨ta, pa, ga⟩ := ha
  obtain ⟨tb, pb, gb⟩ := hb
  obtain ⟨tc, pc, gc⟩ := hc
  refine ⟨_, pt_chain h1 h1' pa pb pc (lastM hs), good_test (good_chain o p h2 h2' ga gb gc) fun ρ S d S' h => ?_⟩
  obtain ⟨x, S1, _, h1⟩ := Rs.bind_ok h
  obtain ⟨y, S2, _, h2⟩ := Rs.bind_ok h1
  cases hc : cmpD o x y S2 with
  | none => rw [hc] at h2; cases h2
  | some k =>
    rw [hc] at h2
    cases k with
    | false => cases h2; exact ⟨false, rfl⟩
    | true =>
      obtain ⟨z, S3, _, h3⟩ := Rs.bind_ok h2
      exact rs_of_bl h3
/-! ### and, or, not, if -/
def andF (fa fb : AEnv → Store → Rs D) : AEnv → Store → Rs D := fun ρ S => (fa ρ S).bind fun x S1 => match truD x S1 with
    | some true => fb ρ S1
    | some false => .ok x S1
    | none => .stuck
def orF (fa fb : AEnv → Store → Rs D) : AEnv → Store → Rs D := fun ρ S => (fa ρ S).bind fun x S1 => match truD x S1 with
    | some true => .ok x S1
    | some false => fb ρ S1
    | none => .stuck
def notF (fa : AEnv → Store → Rs D) : AEnv → Store → Rs D := fun ρ S => (fa ρ S).bind fun x S1 => match truD x S1 with
    | some k => .ok (.bl (!k)) S1
    | none => .stuck
def iteF' (fc fa fb : AEnv → Store → Rs D) : AEnv → Store → Rs D := fun ρ S => (fc ρ S).bind fun x S1 => match truD x S1 with
    | some true => fa ρ S1
    | some false => fb ρ S1
    | none => .stuck
theorem truF_and (ρ : AEnv) (S : Store) : truF (andF fa fb) ρ S = (truF fa ρ S).bind fun k S1 => match k with
    | true => truF fb ρ S1
    | false => .ok false S1 := by
  unfold truF andF
  cases fa ρ S with
  | ok x S1 =>
    simp only [Rs.bind]
    cases h : truD x S1 with
    | none => rfl
    | some k => cases k <;> simp [Rs.of, Rs.bind, h]
  | ex x S1 => rfl
  | stuck => rfl
theorem truF_or (ρ : AEnv) (S : Store) : truF (orF fa fb) ρ S = (truF fa ρ S).bind fun k S1 => match k with
    | true => .ok true S1
    | false => truF fb ρ S1 := by
  unfold truF orF
  cases fa ρ S with
  | ok x S1 =>
    simp only [Rs.bind]
    cases h : truD x S1 with
    | none => rfl
    | some k => cases k <;> simp [Rs.of, Rs.bind, h]
  | ex x S1 => rfl
  | stuck => rfl
theorem truF_not (ρ : AEnv) (S : Store) : truF (notF fa) ρ S = (truF fa ρ S).bind fun k S1 => .ok (!k) S1 := by
  unfold truF notF
  cases fa ρ S with
  | ok x S1 =>
    simp only [Rs.bind]
    cases h : truD x S1 with
    | none => rfl
    | some k => cases k <;> rfl
  | ex x S1 => rfl
  | stuck => rfl
/-- a chain of and, or as a test -/
def EW (C : Cxt) (R : XR) (X : Cx) (E : XK) (e : Expr) (f : AEnv → Store → Rs D) : Prop := ∃ t, PW X e t ∧ GoodT C R E t (truF f)
theorem EW.et {f : AEnv → Store → Rs D} (h : EW C R X E e f) : ET C R X E e f := let ⟨t, p, g⟩ := h; ⟨t, p.pt, g⟩
variable {rest : List Expr}
theorem ew_and1 (ha : ET C R X E a fa) : EW C R X E (.BoolOp .And [a] pos) fa := let ⟨t, p, g⟩ := ha; ⟨t, pw_and1 p, g⟩
theorem ew_or1 (ha : ET C R X E a fa) : EW C R X E (.BoolOp .Or [a] pos) fa := let ⟨t, p, g⟩ := ha; ⟨t, pw_or1 p, g⟩
theorem ew_and (ha : ET C R X E a fa) (hb : EW C R X E (.BoolOp .And (b :: rest) pos) fb) : EW C R X E (.BoolOp .And (a :: b :: rest) pos) (andF fa fb) := by
  obtain ⟨ta, pa, ga⟩ := ha
  obtain ⟨tb, pb, gb⟩ := hb
  refine ⟨_, pw_and pa pb, fun σ H L ρ S Q s e h => ?_⟩
  rw [truF_and] at h
  refine ga.first s e (fun _ _ z => z) h fun k S1 H1 L1 x1 s1 e1 h1 => ?_
  cases k with
  | true =>
    rw [if_pos rfl]
    exact gb σ H1 L1 ρ S1 Q s1 e1 (sat_mono h1 (fun _ _ z H' L' x' s' => z H' L' (x1.trans x') s') fun _ _ z => z.later x1)
  | false =>
    rw [if_neg Bool.false_ne_true]
    exact h1 H1 L1 x1 s1
theorem ew_or (ha : ET C R X E a fa) (hb : EW C R X E (.BoolOp .Or (b :: rest) pos) fb) : EW C R X E (.BoolOp .Or (a :: b :: rest) pos) (orF fa fb) := by
  obtain ⟨ta, pa, ga⟩ := ha
  obtain ⟨tb, pb, gb⟩ := hb
  refine ⟨_, pw_or pa pb, fun σ H L ρ S Q s e h => ?_⟩
  rw [truF_or] at h
  refine ga.first s e (fun _ _ z => z) h fun k S1 H1 L1 x1 s1 e1 h1 => ?_
  cases k with
  | false =>
    rw [if_neg Bool.false_ne_true]
    exact gb σ H1 L1 ρ S1 Q s1 e1 (sat_mono h1 (fun _ _ z H' L' x' s' => z H' L' (x1.trans x') s') fun _ _ z => z.later x1)
  | true =>
    rw [if_pos rfl]
    exact h1 H1 L1 x1 s1
theorem et_not (ha : ET C R X E a fa) : ET C R X E (.UnaryOp .Not a pos) (notF fa) := by
  obtain ⟨ta, pa, ga⟩ := ha
  refine ⟨_, pt_not pa, fun σ H L ρ S Q s e h => ?_⟩
  rw [truF_not] at h
  exact ga.first s e (fun _ _ z => z) h fun k S1 H1 L1 x1 s1 e1 h1 => h1 H1 L1 x1 s1
theorem post_later {H H1 : Hp} {L L1 : List Addr} {S' : Store} {d : D} {v : V} {H' : Hp} {L' F : List Addr} (x1 : Ext H L H1 L1) (p : Post C H1 L1 S' d v H' L' F) : Post C H L S' d v H' L' F :=
  ⟨x1.trans p.ext, p.sim, p.rep, fun a ha => x1.dom a (p.fr.new a ha), p.fr.nd, p.fr.out⟩
theorem OkW.later {H H1 : Hp} {L L1 : List Addr} {Q : VK} {d : D} {S' : Store} (x1 : Ext H L H1 L1) (h : OkW C H L Q d S') : OkW C H1 L1 Q d S' := fun v H' L' F p => h v H' L' F (post_later x1 p)
theorem ee_one {op : BoolOp} (ha : EE C R X E a fa) : EE C R X E (.BoolOp op [a] pos) fa := let ⟨t, p, g⟩ := ha; ⟨t, pe_one p, g⟩
theorem ee_and (hK : X.K = C.K) (ha : EE C R X E a fa) (hb : EE C R X E (.BoolOp .And (b :: rest) pos) fb) : EE C R X E (.BoolOp .And (a :: b :: rest) pos) (andF fa fb) := by
  obtain ⟨ta, pa, ga⟩ := ha
  obtain ⟨tb, pb, gb⟩ := hb
  refine ⟨_, pe_andT pa pb, fun σ H L ρ S Q s e h => ?_⟩
  refine ga.first s e (fun _ _ z => z) h fun x S1 v H1 L1 F p1 e1 h1 => ?_
  cases hk : truD x S1 with
  | none => rw [hk] at h1; exact h1.elim
  | some k =>
    rw [hk] at h1
    refine ⟨k, hK ▸ tru_of p1.sim p1.rep hk, ?_⟩
    cases k with
    | true =>
      rw [if_pos rfl]
      exact gb σ H1 L1 ρ S1 Q p1.sim e1 (sat_mono h1 (fun _ _ z => z.later p1.ext) fun _ _ z => z.later p1.ext)
    | false =>
      rw [if_neg Bool.false_ne_true]
      exact h1 v H1 L1 F p1
theorem ee_or (hK : X.K = C.K) (ha : EE C R X E a fa) (hb : EE C R X E (.BoolOp .Or (b :: rest) pos) fb) : EE C R X E (.BoolOp .Or (a :: b :: rest) pos) (orF fa fb) := by
  obtain ⟨ta, pa, ga⟩ := ha
  obtain ⟨tb, pb, gb⟩ := hb
  refine ⟨_, pe_orT pa pb, fun σ H L ρ S Q s e h => ?_⟩
  refine ga.first s e (fun _ _ z => z) h fun x S1 v H1 L1 F p1 e1 h1 => ?_
  cases hk : truD x S1 with
  | none => rw [hk] at h1; exact h1.elim
  | some k =>
    rw [hk] at h1
    refine ⟨k, hK ▸ tru_of p1.sim p1.rep hk, ?_⟩
    cases k with
    | false =>
      rw [if_neg Bool.false_ne_true]
      exact gb σ H1 L1 ρ S1 Q p1.sim e1 (sat_mono h1 (fun _ _ z => z.later p1.ext) fun _ _ z => z.later p1.ext)
    | true =>
      rw [if_pos rfl]
      exact h1 v H1 L1 F p1
theorem ee_not (hK : X.K = C.K) (ha : EE C R X E a fa) : EE C R X E (.UnaryOp .Not a pos) (notF fa) := by
  obtain ⟨ta, pa, ga⟩ := ha
  refine ⟨_, pe_notT pa, fun σ H L ρ S Q s e h => ?_⟩
  refine ga.first s e (fun _ _ z => z) h fun x S1 v H1 L1 F p1 e1 h1 => ?_
  cases hk : truD x S1 with
  | none => rw [hk] at h1; exact h1.elim
  | some k =>
    rw [hk] at h1
    exact ⟨k, hK ▸ tru_of p1.sim p1.rep hk, h1 _ H1 L1 [] ⟨p1.ext, p1.sim, .bl _, Fr.nil _ _⟩⟩
theorem ee_ite (hc : ET C R X E c fc) (ha : EE C R X E a fa) (hb : EE C R X E b fb) : EE C R X E (.IfExp c a b pos) (iteF' fc fa fb) := by
  obtain ⟨tc, pc, gc⟩ := hc
  obtain ⟨ta, pa, ga⟩ := ha
  obtain ⟨tb, pb, gb⟩ := hb
  refine ⟨_, pe_ifExp pc pa pb, fun σ H L ρ S Q s e h => ?_⟩
  have h2 : ((truF fc ρ S).bind fun k S1 => if k = true then fa ρ S1 else fb ρ S1).sat (OkW C H L Q) (ExW C R E H L) := by
    have h' : (iteF' fc fa fb ρ S).sat (OkW C H L Q) (ExW C R E H L) := h
    unfold iteF' at h'
    unfold truF
    cases hf : fc ρ S with
    | ok x S1 =>
      rw [hf] at h'
      simp only [Rs.bind] at h' ⊢
      cases hk : truD x S1 with
      | none => rw [hk] at h'; exact h'.elim
      | some k => rw [hk] at h'; cases k <;> simpa [Rs.of, Rs.bind] using h'
    | ex x S1 => rw [hf] at h'; exact h'
    | stuck => rw [hf] at h'; exact h'.elim
  refine gc.first s e (fun _ _ z => z) h2 fun k S1 H1 L1 x1 s1 e1 h1 => ?_
  cases k with
  | true =>
    rw [if_pos rfl] at h1 ⊢
    exact ga σ H1 L1 ρ S1 Q s1 e1 (sat_mono h1 (fun _ _ z => z.later x1) fun _ _ z => z.later x1)
  | false =>
    rw [if_neg Bool.false_ne_true] at h1 ⊢
    exact gb σ H1 L1 ρ S1 Q s1 e1 (sat_mono h1 (fun _ _ z => z.later x1) fun _ _ z => z.later x1)
end
end Nv
/-! Nv: items, slices, fields, built-in functions, isinstance. -/
namespace Nv
open PySem PySem.Spec PyProof.Rows L2
section
variable {C : Cxt} {R : XR} {X : Cx} {E : XK} {pos : Pos} {a b c e : Expr} {fa fb fc : AEnv → Store → Rs D}
theorem Reps.at {H : Hp} {L : List Addr} : ∀ {xs : List D} {vs : List V} {F : List Addr} {j : Nat} {d : D}, Reps C H L xs vs F → xs[j]? = some d → ∃ v G, vs[j]? = some v ∧ Rep C H L d v G ∧ G.Sublist F
  | _, _, _, j, d, .nil, h => by simp at h
  | _, _, _, 0, d, .cons r s, h => by
    simp at h; subst h
    exact ⟨_, _, rfl, r, List.sublist_append_left _ _⟩
  | _, _, _, j + 1, d, .cons r s, h => by
    obtain ⟨v, G, h1, h2, h3⟩ := s.at (j := j) (by simpa using h)
    exact ⟨v, G, by simpa using h1, h2, h3.trans (List.sublist_append_right _ _)⟩
theorem Reps.atI {H : Hp} {L : List Addr} {xs : List D} {vs : List V} {F : List Addr} {i : Int} {d : D} (r : Reps C H L xs vs F) (h : L2.atI xs i = some d) : ∃ v G, L2.atI vs i = some v ∧ Rep C H L d v G ∧ G.Sublist F := by
  unfold L2.atI at h
  cases q : ixN xs.length i with
  | none => rw [q] at h; cases h
  | some j =>
    rw [q] at h
    obtain ⟨v, G, h1, h2, h3⟩ := r.at h
    exact ⟨v, G, by unfold L2.atI; rw [← r.length, q]; exact h1, h2, h3⟩
theorem good_idx : GoodR C (rIx C.K) idxD := by
  intro H0 L0 H L S x y vx vy F G d Q e s rx ry fr hd q
  have seqs : ∀ k, y = .int k → ((seqOf x S).bind fun xs => L2.atI xs k) = some d → rIx C.K vx vy H Q := by
    intro k hy h
    subst hy
    obtain ⟨rfl, rfl⟩ := ry.int_inv
    cases hs : seqOf x S with
    | none => rw [hs] at h; cases h
    | some xs =>
      rw [hs] at h
      obtain ⟨a, vs, F', rfl, r1, f1, w⟩ := seq_of s rx hs
      obtain ⟨v, G', h1, h2, h3⟩ := r1.atI (d := d) h
      have p : Q v H := q v H L G' (Ext.refl _ _) (post_same e s h2 fr ((h3.trans f1).trans (List.sublist_append_left _ _)))
      rcases w with ⟨w, _⟩ | ⟨w, _⟩
      · exact .inl ⟨a, vs, k, v, rfl, rfl, w, h1, p⟩
      · exact .inr (.inl ⟨a, vs, k, v, rfl, rfl, w, h1, p⟩)
  cases y with
  | int k =>
    cases x with
    | str z =>
      by_cases hz : z.length ≤ sizeLine
      · simp only [idxD, if_pos hz] at hd
        cases hc : L2.atI z.cps.toList k with
        | none => rw [hc] at hd; cases hd
        | some c =>
          rw [hc] at hd
          cases hd
          obtain ⟨rfl, rfl⟩ := rx.str_inv
          obtain ⟨rfl, rfl⟩ := ry.int_inv
          exact .inr (.inr ⟨z, k, c, rfl, rfl, hz, hc, q _ H L [] (Ext.refl _ _) (post_same e s (.str _) fr (List.nil_sublist _))⟩)
      · simp only [idxD, if_neg hz] at hd; cases hd
    | _ => exact seqs k rfl hd
  | _ => cases x <;> cases hd
theorem plainIx_of {b : Expr} (h : ∀ l u s p, b ≠ .Slice l u s p) : PlainIx b := by
  intro o i
  cases b <;> first
    | rfl
    | exact absurd rfl (h _ _ _ _)
theorem ee_idx (hK : X.K = C.K) (hs : ∀ l u s p, b ≠ .Slice l u s p) (ha : EE C R X E a fa) (hb : EE C R X E b fb) :
    EE C R X E (.Subscript a b pos) (fun ρ S => (fa ρ S).bind fun x S1 => (fb ρ S1).bind fun y S2 => Rs.of (idxD x y S2) S2) :=
  ee_op2 (r := rIx C.K) good_idx (fun ta tb pa pb => pe_ix (hK ▸ ix_seq) pa pb (plainIx_of hs)) ha hb
/-! ### slices -/
theorem eo_none : EO C R X E none (fun _ S => .ok none S) := ⟨tNoPart, po_none, fun σ H L ρ S Q s e h => h H L (Ext.refl _ _) s⟩
theorem eo_some (ha : EE C R X E a fa) : EO C R X E (some a) (fun ρ S => (fa ρ S).bind fun x S1 => match x with
    | .int i => .ok (some i) S1
    | _ => .stuck) := by
  obtain ⟨ta, pa, ga⟩ := ha
  refine ⟨_, po_some pa, fun σ H L ρ S Q s e h => ?_⟩
  refine ga.first s e (fun _ _ z => z) h fun x S1 v H1 L1 F p1 e1 h1 => ?_
  cases x with
  | int i =>
    obtain ⟨rfl, rfl⟩ := p1.rep.int_inv
    exact ⟨i, rfl, h1 H1 L1 p1.ext p1.sim⟩
  | _ => exact h1.elim
def rSlN (K : PySem.W.Frag) : V → Option Int → Option Int → Hp → VK → Prop := fun x lo hi H Q => rSlL K x lo hi H Q ∨ rSlA K x lo hi H Q ∨ ∃ z : Str, x = .str z ∧ z.length ≤ sizeLine ∧ Q (.str (cutS z lo hi)) H
theorem Reps.drop {H : Hp} {L : List Addr} : ∀ {xs : List D} {vs : List V} {F : List Addr} (n : Nat), Reps C H L xs vs F → ∃ G, Reps C H L (xs.drop n) (vs.drop n) G ∧ G.Sublist F
  | _, _, _, 0, r => ⟨_, r, List.Sublist.refl _⟩
  | _, _, _, n + 1, .nil => ⟨[], .nil, List.Sublist.refl _⟩
  | _, _, _, n + 1, .cons _ s => let ⟨G, h1, h2⟩ := s.drop n; ⟨G, h1, h2.trans (List.sublist_append_right _ _)⟩
theorem Reps.take {H : Hp} {L : List Addr} : ∀ {xs : List D} {vs : List V} {F : List Addr} (n : Nat), Reps C H L xs vs F → ∃ G, Reps C H L (xs.take n) (vs.take n) G ∧ G.Sublist F
  | _, _, _, 0, r => ⟨[], .nil, List.nil_sublist _⟩
  | _, _, _, n + 1, .nil => ⟨[], .nil, List.Sublist.refl _⟩
  | _, _, _, n + 1, .cons r s => let ⟨G, h1, h2⟩ := s.take n; ⟨_ ++ G, .cons r h1, (List.Sublist.refl _).append h2⟩
theorem Reps.cut {H : Hp} {L : List Addr} {xs : List D} {vs : List V} {F : List Addr} (lo hi : Option Int) (r : Reps C H L xs vs F) : ∃ G, Reps C H L (cutD xs lo hi) (cutV vs lo hi) G ∧ G.Sublist F := by
  obtain ⟨G, h1, h2⟩ := r.drop (HT.sIx xs.length 0 lo)
  obtain ⟨G', h3, h4⟩ := h1.take (HT.sIx xs.length xs.length hi - HT.sIx xs.length 0 lo)
  refine ⟨G', ?_, h4.trans h2⟩
  unfold cutD cutV
  rw [← r.length]
  exact h3
theorem cut_whole {α : Type} {xs : List α} {lo hi : Option Int} (h : HT.sIx xs.length 0 lo = 0 ∧ HT.sIx xs.length xs.length hi = xs.length) : (xs.drop (HT.sIx xs.length 0 lo)).take (HT.sIx xs.length xs.length hi - HT.sIx xs.length 0 lo) = xs := by
  rw [h.1, h.2]; simp
theorem ee_slc {lo hi : Option Expr} {p2 : Pos} {fl fh : AEnv → Store → Rs (Option Int)} (hK : X.K = C.K) (ha : EE C R X E a fa) (hl : EO C R X E lo fl) (hh : EO C R X E hi fh) :
    EE C R X E (.Subscript a (.Slice lo hi none p2) pos) (fun ρ S => (fa ρ S).bind fun x S1 => (fl ρ S1).bind fun l S2 => (fh ρ S2).bind fun h S3 => Rs.of (slcD x l h S3) S3) := by
  obtain ⟨ta, pa, ga⟩ := ha
  obtain ⟨tl, pl, gl⟩ := hl
  obtain ⟨th, ph, gh⟩ := hh
  refine ⟨_, pe_slice (r := rSlN C.K) (hK ▸ sl_list.or (sl_tupA.or sl_str)) pa pl ph, fun σ H L ρ S Q s e h => ?_⟩
  refine ga.first s e (fun _ _ z => z) h fun x S1 v H1 L1 F p1 e1 h1 => ?_
  refine gl.first p1.sim e1 (fun _ _ z => z.later p1.ext) h1 fun l S2 H2 L2 x2 s2 e2 h2 => ?_
  refine gh.first s2 e2 (fun _ _ z => z.later (p1.ext.trans x2)) h2 fun u S3 H3 L3 x3 s3 e3 h3 => ?_
  obtain ⟨d, hd, q⟩ := sat_of h3
  have x23 := x2.trans x3
  have rx : Rep C H3 L3 x v F := p1.rep.car (x23.car p1.fr.out)
  have fr : Fr H F L3 := p1.fr.over p1.rep.trk x23
  have ex := p1.ext.trans x23
  have seqs : ((seqOf x S3).map fun xs => D.new (.lst (cutD xs l u))) = some d → (∀ ys, x ≠ .tup ys) → rSlN C.K v l u H3 Q := by
    intro h nt
    cases hs : seqOf x S3 with
    | none => rw [hs] at h; cases h
    | some xs =>
      rw [hs] at h
      cases h
      obtain ⟨a, vs, F', rfl, r1, f1, w⟩ := seq_of s3 rx hs
      obtain ⟨G, r2, f2⟩ := r1.cut l u
      rcases w with ⟨w, _⟩ | ⟨_, w⟩
      · exact .inl ⟨a, vs, rfl, w, fun p hp => q _ _ L3 _ (post_lst ex s3 r2 (fr.sub (f2.trans f1)) hp)⟩
      · exact absurd w (nt _)
  cases x with
  | str z =>
    by_cases hz : z.length ≤ sizeLine
    · simp only [slcD, if_pos hz] at hd
      cases hd
      obtain ⟨rfl, rfl⟩ := rx.str_inv
      exact .inr (.inr ⟨z, rfl, hz, q _ H3 L3 [] ⟨ex, s3, .str _, Fr.nil _ _⟩⟩)
    · simp only [slcD, if_neg hz] at hd; cases hd
  | tup xs =>
    simp only [slcD] at hd
    cases hd
    obtain ⟨a, vs, rfl, ht, r1⟩ := rx.tup_inv
    obtain ⟨G, r2, f2⟩ := r1.cut l u
    refine .inr (.inl ⟨a, vs, rfl, ht, fun hw => ?_, fun _ p hp => q _ _ L3 _ (post_tup ex s3 r2 (fr.sub f2) hp)⟩)
    have hw' : HT.sIx xs.length 0 l = 0 ∧ HT.sIx xs.length xs.length u = xs.length := by rw [r1.length]; exact hw
    have e' : cutD xs l u = xs := cut_whole hw'
    exact q _ H3 L3 F ⟨ex, s3, by rw [e']; exact .tup ht r1, fr⟩
  | non => exact seqs hd fun ys z => nomatch z
  | bl _ => exact seqs hd fun ys z => nomatch z
  | int _ => exact seqs hd fun ys z => nomatch z
  | ref n => exact seqs hd fun ys z => nomatch z
  | new o => exact seqs hd fun ys z => nomatch z
/-! ### fields -/
theorem fs_look {H : Hp} {L : List Addr} : ∀ {fs : List (Nat × D)} {vs : List (Str × V)} {F : List Addr} {f : Nat} {d : D}, (∀ g ∈ fs.map (·.1), C.sym g = C.sym f → g = f) → RepFs C H L fs vs F → fs.lookup f = some d → ∃ v G, vs.lookup (C.sym f) = some v ∧ Rep C H L d v G ∧ G.Sublist F
  | [], _, _, f, d, _, .nil, h => by cases h
  | (g, x) :: r, _, _, f, d, inj, .cons rx rs, h => by
    by_cases q : f = g
    · subst q
      have h' : some x = some d := by
        have : List.lookup f ((f, x) :: r) = some x := by simp [List.lookup]
        rw [← this]; exact h
      cases h'
      refine ⟨_, _, ?_, rx, List.sublist_append_left _ _⟩
      simp [List.lookup]
    · have ne : ¬ C.sym f = C.sym g := fun e => q (inj g (by simp) e.symm).symm
      have e1 : (f == g) = false := by simpa using q
      have e2 : (C.sym f == C.sym g) = false := by simpa using ne
      have h' : r.lookup f = some d := by
        simp only [List.lookup, e1] at h; exact h
      obtain ⟨v, G, h1, h2, h3⟩ := fs_look (fun g' hg => inj g' (by simp only [List.map_cons]; exact List.mem_cons_of_mem _ hg)) rs h'
      exact ⟨v, G, by simp only [List.lookup, e2]; exact h1, h2, h3.trans (List.sublist_append_right _ _)⟩
theorem fs_none {H : Hp} {L : List Addr} : ∀ {fs : List (Nat × D)} {vs : List (Str × V)} {F : List Addr} {f : Nat}, (∀ g ∈ fs.map (·.1), C.sym g = C.sym f → g = f) → RepFs C H L fs vs F → fs.lookup f = none → vs.lookup (C.sym f) = none
  | [], _, _, f, _, .nil, h => rfl
  | (g, x) :: r, _, _, f, inj, .cons rx rs, h => by
    by_cases q : f = g
    · subst q
      simp [List.lookup] at h
    · have ne : ¬ C.sym f = C.sym g := fun e => q (inj g (by simp) e.symm).symm
      have e1 : (f == g) = false := by simpa using q
      have e2 : (C.sym f == C.sym g) = false := by simpa using ne
      have h' : r.lookup f = none := by
        simp only [List.lookup, e1] at h; exact h
      simp only [List.lookup, e2]
      exact fs_none (fun g' hg => inj g' (by simp only [List.map_cons]; exact List.mem_cons_of_mem _ hg)) rs h'
/-- the attribute's name is no name of a class -/
def FldOk (C : Cxt) (f : Nat) : Prop := (∀ g, C.sym g = C.sym f → g = f)
theorem ee_attr {f : Nat} {nm : Str} (hK : X.K = C.K) (hcl : ∀ c, c < C.nc → Cls C.K (C.CA c)) (hna : ∀ c, c < C.nc → NoAttr C.K (C.CA c) nm) (hsym : C.sym f = nm) (inj : ∀ g, C.sym g = C.sym f → g = f) (hb : attributeBase a nm X.env (eval a X.env) = eval a X.env) (ha : EE C R X E a fa) :
    EE C R X E (.Attribute a nm pos) (fun ρ S => (fa ρ S).bind fun x S1 => Rs.of (attrD x f S1) S1) := by
  subst hsym
  obtain ⟨ta, pa, ga⟩ := ha
  refine ⟨_, pe_fld pa hb, fun σ H L ρ S Q s e h => ?_⟩
  refine ga.first s e (fun _ _ z => z) h fun x S1 v H1 L1 F p1 e1 h1 => ?_
  obtain ⟨d, hd, q⟩ := sat_of h1
  cases x with
  | ref n =>
    obtain ⟨rfl, a', rfl, hl, hc⟩ := p1.sim.at p1.rep
    simp only [attrD] at hd
    cases ho : S1[n]? with
    | none => rw [ho] at hd; cases hd
    | some o =>
      rw [ho] at hd
      cases o with
      | ins c fs =>
        obtain ⟨dx, vs, h1, h2, hlt⟩ := (hc _ ho).ins
        obtain ⟨v, G, h3, h4, h5⟩ := fs_look (fun g _ => inj g) h2 hd
        have eG : G = [] := List.sublist_nil.mp h5
        subst eG
        exact ⟨a', C.CA c, dx, vs, v, rfl, h1, hK ▸ hcl c hlt, hK ▸ hna c hlt, h3, q v H1 L1 [] ⟨p1.ext, p1.sim, h4, Fr.nil _ _⟩⟩
      | _ => cases hd
  | _ => cases hd
end
end Nv
/-! Nv: argument lists, built-in functions, isinstance. -/
namespace Nv
open PySem PySem.Spec PyProof.Rows L2
def noStar1 : Expr → Bool
  | .Starred .. => false
  | _ => true
def noStar (es : List Expr) : Bool := es.all noStar1
theorem starEach_ns {e : Expr} {es : List Expr} {env : Env} (h : noStar1 e = true) : starEach (e :: es) env = (false, eval e env) :: starEach es env := by
  cases e <;> first
    | rfl
    | cases h
theorem any_ns {pos : Pos} {env : Env} : ∀ {es : List Expr}, noStar es = true → (backTo pos (starEach es env)).any (·.1) = false
  | [], _ => rfl
  | e :: es, h => by
    unfold noStar at h
    rw [List.all_cons, Bool.and_eq_true] at h
    rw [starEach_ns h.1]
    have ih := any_ns (pos := pos) (env := env) (es := es) h.2
    simp only [backTo, List.map_cons, List.any_cons] at ih ⊢
    rw [ih]; rfl
theorem CallR.or {X : Cx} {f : Value} {r r' : List V → Hp → VK → Prop} (h : CallR X f r) (h' : CallR X f r') : CallR X f (fun xs H Q => r xs H Q ∨ r' xs H Q) := by
  intro pins s σ H xs us Q I rs q
  rcases q with q | q
  · exact h pins s σ H xs us Q I rs q
  · exact h' pins s σ H xs us Q I rs q
/-- a call by values agrees with r -/
def GoodC (C : Cxt) (r : List V → Hp → VK → Prop) (g : List D → Store → Option D) : Prop :=
  ∀ (H0 : Hp) (L0 : List Addr) (H : Hp) (L : List Addr) (S : Store) (xs : List D) (vs : List V) (F : List Addr) (d : D) (Q : VK), Ext H0 L0 H L → SimS C H L S → Reps C H L xs vs F → Fr H0 F L → g xs S = some d →
    (∀ v H' L' Z, Post C H0 L0 S d v H' L' Z → Q v H') → r vs H Q
section
variable {C : Cxt} {R : XR} {X : Cx} {E : XK} {pos p0 : Pos} {a b c e : Expr} {fa fb fc : AEnv → Store → Rs D}
theorem ee_blt1 {x : Str} {id : String} {es : List Expr} {r : List V → Hp → VK → Prop} {g : List D → Store → Option D} {fs : AEnv → Store → Rs (List D)} (hc : CallR X (.builtin id) r) (hr : GoodC C r g) (hg : Gl X x) (hm : X.mg x = none) (hv : bootBuiltins x = some (.builtin id))
    (hn : x ≠ "__name__") (hd : (x == ("__debug__" : Str)) = false) (ns : noStar (e :: es) = true) (ha : EA C R X E (e :: es) fs) : EE C R X E (.Call (.Name x p0) (e :: es) [] pos) (fun ρ S => (fs ρ S).bind fun xs S1 => Rs.of (g xs S1) S1) := by
  obtain ⟨ta, pa, ga⟩ := ha
  have ns' : noStar1 e = true ∧ noStar es = true := by
    unfold noStar at ns ⊢
    rw [List.all_cons, Bool.and_eq_true] at ns
    exact ns
  refine ⟨_, pe_callB hc hg hm hv pa hn hd (starEach_ns ns'.1) (any_ns ns'.2), fun σ H L ρ S Q s e h => ?_⟩
  refine ga.first s e (fun _ _ z => z) h fun xs S1 vs H1 L1 F p1 e1 h1 => ?_
  obtain ⟨d, hd, q⟩ := sat_of h1
  exact hr H L H1 L1 S1 xs vs F d Q p1.ext p1.sim p1.rep p1.fr hd q
theorem Reps.one {H : Hp} {L : List Addr} {x : D} {vs : List V} {F : List Addr} (r : Reps C H L [x] vs F) : ∃ v, vs = [v] ∧ Rep C H L x v F := by
  cases r with
  | cons a b => cases b; exact ⟨_, rfl, by simpa using a⟩
theorem Reps.two {H : Hp} {L : List Addr} {x y : D} {vs : List V} {F : List Addr} (r : Reps C H L [x, y] vs F) : ∃ v w F1 F2, vs = [v, w] ∧ Rep C H L x v F1 ∧ Rep C H L y w F2 := by
  cases r with
  | cons a b =>
    obtain ⟨w, rfl, b'⟩ := b.one
    exact ⟨_, w, _, _, rfl, a, b'⟩
theorem good_len : GoodC C (fun xs H Q => ∃ x n, xs = [x] ∧ LenV C.K x H n ∧ Q (.int n) H) (bltD .len) := by
  intro H0 L0 H L S xs vs F d Q e s r fr hd q
  match xs, hd with
  | [x], hd =>
    obtain ⟨v, rfl, rx⟩ := r.one
    have fin : ∀ n : Nat, Post C H0 L0 S (.int n) (.int n) H L [] := fun n => ⟨e, s, .int _, Fr.nil _ _⟩
    have seqs : ((seqOf x S).map fun xs => D.int xs.length) = some d → ∃ x n, [v] = [x] ∧ LenV C.K x H n ∧ Q (.int n) H := by
      intro h
      cases hs : seqOf x S with
      | none => rw [hs] at h; cases h
      | some xs =>
        rw [hs] at h
        cases h
        obtain ⟨a, ws, F', rfl, r1, f1, w⟩ := seq_of s rx hs
        refine ⟨.ref a, xs.length, rfl, ?_, q _ H L [] (fin _)⟩
        rcases w with ⟨w, _⟩ | ⟨w, _⟩
        · exact .inl ⟨ws, w, r1.length⟩
        · exact .inr ⟨ws, w, r1.length⟩
    cases x with
    | str z =>
      by_cases hz : z.length ≤ sizeLine
      · simp only [bltD, if_pos hz] at hd
        cases hd
        obtain ⟨rfl, rfl⟩ := rx.str_inv
        exact ⟨.str z, z.length, rfl, ⟨hz, rfl⟩, q _ H L [] (fin _)⟩
      · simp only [bltD, if_neg hz] at hd; cases hd
    | _ => exact seqs hd
  | [], hd => cases hd
  | x :: _ :: _, hd => cases x <;> cases hd
theorem good_sum : GoodC C (rSum C.K) (bltD .sum) := by
  intro H0 L0 H L S xs vs F d Q e s r fr hd q
  match xs, hd with
  | [x], hd =>
    obtain ⟨v, rfl, rx⟩ := r.one
    have hd : ((lisOf x S).bind fun xs => (intsOf xs).map fun ns => D.int ns.sum) = some d := hd
    cases hs : lisOf x S with
    | none => rw [hs] at hd; cases hd
    | some xs =>
      rw [hs] at hd
      cases hi : intsOf xs with
      | none =>
        have hd' : ((intsOf xs).map fun ns => D.int ns.sum) = some d := hd
        rw [hi] at hd'; cases hd'
      | some ns =>
        have hd' : ((intsOf xs).map fun ns => D.int ns.sum) = some d := hd
        rw [hi] at hd'
        cases hd'
        obtain ⟨a, ws, F', rfl, r1, f1, w⟩ := lis_of s rx hs
        obtain ⟨rfl, _⟩ := ints_of hi r1
        exact ⟨a, ns, rfl, w, q _ H L [] ⟨e, s, .int _, Fr.nil _ _⟩⟩
  | [], hd => cases hd
  | x :: _ :: _, hd => cases x <;> cases hd
theorem good_all : GoodC C (rAll C.K) (bltD .all) := by
  intro H0 L0 H L S xs vs F d Q e s r fr hd q
  match xs, hd with
  | [x], hd =>
    obtain ⟨v, rfl, rx⟩ := r.one
    have hd : ((lisOf x S).bind fun xs => (blsOf xs).map fun ns => D.bl (ns.all id)) = some d := hd
    cases hs : lisOf x S with
    | none => rw [hs] at hd; cases hd
    | some xs =>
      rw [hs] at hd
      cases hi : blsOf xs with
      | none =>
        have hd' : ((blsOf xs).map fun ns => D.bl (ns.all id)) = some d := hd
        rw [hi] at hd'; cases hd'
      | some ns =>
        have hd' : ((blsOf xs).map fun ns => D.bl (ns.all id)) = some d := hd
        rw [hi] at hd'
        cases hd'
        obtain ⟨a, ws, F', rfl, r1, f1, w⟩ := lis_of s rx hs
        obtain ⟨rfl, _⟩ := bls_of hi r1
        exact ⟨a, ns, rfl, w, q _ H L [] ⟨e, s, .bl _, Fr.nil _ _⟩⟩
  | [], hd => cases hd
  | x :: _ :: _, hd => cases x <;> cases hd
theorem good_any : GoodC C (rAny C.K) (bltD .any) := by
  intro H0 L0 H L S xs vs F d Q e s r fr hd q
  match xs, hd with
  | [x], hd =>
    obtain ⟨v, rfl, rx⟩ := r.one
    have hd : ((lisOf x S).bind fun xs => (blsOf xs).map fun ns => D.bl (ns.any id)) = some d := hd
    cases hs : lisOf x S with
    | none => rw [hs] at hd; cases hd
    | some xs =>
      rw [hs] at hd
      cases hi : blsOf xs with
      | none =>
        have hd' : ((blsOf xs).map fun ns => D.bl (ns.any id)) = some d := hd
        rw [hi] at hd'; cases hd'
      | some ns =>
        have hd' : ((blsOf xs).map fun ns => D.bl (ns.any id)) = some d := hd
        rw [hi] at hd'
        cases hd'
        obtain ⟨a, ws, F', rfl, r1, f1, w⟩ := lis_of s rx hs
        obtain ⟨rfl, _⟩ := bls_of hi r1
        exact ⟨a, ns, rfl, w, q _ H L [] ⟨e, s, .bl _, Fr.nil _ _⟩⟩
  | [], hd => cases hd
  | x :: _ :: _, hd => cases x <;> cases hd
theorem good_min : GoodC C (fun xs H Q => ∃ i j, xs = [.int i, .int j] ∧ Q (.int (if j < i then j else i)) H) (bltD .min) := by
  intro H0 L0 H L S xs vs F d Q e s r fr hd q
  have hx : ∃ i j, xs = [.int i, .int j] := by
    match xs, hd with
    | [], hd => cases hd
    | [x], hd => cases x <;> cases hd
    | [x, y], hd => cases x <;> cases y <;> first | cases hd; done | exact ⟨_, _, rfl⟩
    | x :: y :: _ :: _, hd => cases x <;> cases y <;> cases hd
  obtain ⟨i, j, rfl⟩ := hx
  · cases hd
    obtain ⟨v, w, F1, F2, rfl, r1, r2⟩ := r.two
    obtain ⟨rfl, _⟩ := r1.int_inv
    obtain ⟨rfl, _⟩ := r2.int_inv
    exact ⟨i, j, rfl, q _ H L [] ⟨e, s, .int _, Fr.nil _ _⟩⟩
theorem good_max : GoodC C (fun xs H Q => ∃ i j, xs = [.int i, .int j] ∧ Q (.int (if j > i then j else i)) H) (bltD .max) := by
  intro H0 L0 H L S xs vs F d Q e s r fr hd q
  have hx : ∃ i j, xs = [.int i, .int j] := by
    match xs, hd with
    | [], hd => cases hd
    | [x], hd => cases x <;> cases hd
    | [x, y], hd => cases x <;> cases y <;> first | cases hd; done | exact ⟨_, _, rfl⟩
    | x :: y :: _ :: _, hd => cases x <;> cases y <;> cases hd
  obtain ⟨i, j, rfl⟩ := hx
  · cases hd
    obtain ⟨v, w, F1, F2, rfl, r1, r2⟩ := r.two
    obtain ⟨rfl, _⟩ := r1.int_inv
    obtain ⟨rfl, _⟩ := r2.int_inv
    exact ⟨i, j, rfl, q _ H L [] ⟨e, s, .int _, Fr.nil _ _⟩⟩
/-! ### isinstance -/
def istN : IsT → Str
  | .int => "int" | .bool => "bool" | .str => "str" | .tuple => "tuple" | .list => "list" | .cls _ => ""
theorem isi_kit {H : Hp} {L : List Addr} {S : Store} (s : SimS C H L S) {x : D} {v : V} {F : List Addr} {t : IsT} {b : Bool} (r : Rep C H L x v F) (h : isiD x t S = some b) :
    ∃ (n : String) (ty : Value), istN t = (n : Str) ∧ bootBuiltins (istN t) = some (.type n) ∧ TyX C.K H v ty ∧ PySem.W.kitOne C.K ty (.type n) = some b := by
  have tupTy : ∀ {a : Addr} {vs : List V}, SqT C.K H a vs → TyX C.K H (.ref a) (.type "tuple") := fun {a vs} h => by
    rcases h with (h | ⟨o, h⟩) | ⟨o, its, n, h, hc, _⟩
    · exact .base (.tup h)
    · exact .fTuple h
    · exact .kTuple h hc
  cases t with
  | int =>
    refine ⟨"int", ?_⟩
    cases r with
    | int i => cases h; exact ⟨_, rfl, by decide +kernel, .base (.int i), kit_ty (by decide +kernel)⟩
    | bl i => cases h; exact ⟨_, rfl, by decide +kernel, .base (.bl i), kit_ty (by decide +kernel)⟩
    | str i => cases h; exact ⟨_, rfl, by decide +kernel, .base (.str i), kit_ty (by decide +kernel)⟩
    | non => cases h; exact ⟨_, rfl, by decide +kernel, .base .non, kit_ty (by decide +kernel)⟩
    | tup ht _ => cases h; exact ⟨_, rfl, by decide +kernel, tupTy ht, kit_ty (by decide +kernel)⟩
    | _ => cases h
  | bool =>
    refine ⟨"bool", ?_⟩
    cases r with
    | int i => cases h; exact ⟨_, rfl, by decide +kernel, .base (.int i), kit_ty (by decide +kernel)⟩
    | bl i => cases h; exact ⟨_, rfl, by decide +kernel, .base (.bl i), kit_ty (by decide +kernel)⟩
    | str i => cases h; exact ⟨_, rfl, by decide +kernel, .base (.str i), kit_ty (by decide +kernel)⟩
    | non => cases h; exact ⟨_, rfl, by decide +kernel, .base .non, kit_ty (by decide +kernel)⟩
    | tup ht _ => cases h; exact ⟨_, rfl, by decide +kernel, tupTy ht, kit_ty (by decide +kernel)⟩
    | _ => cases h
  | _ => cases h
theorem ee_isi {t : IsT} {p1 p2 : Pos} (hK : X.K = C.K) (hg : Gl X "isinstance") (hm : X.mg "isinstance" = none) (hg2 : Gl X (istN t)) (hm2 : X.mg (istN t) = none) (hd : (istN t == ("__debug__" : Str)) = false) (hn : istN t ≠ "__name__") (ns : noStar1 a = true) (hb : ∃ n : String, istN t = (n : Str) ∧ bootBuiltins (istN t) = some (.type n)) (ha : EE C R X E a fa) :
    EE C R X E (.Call (.Name "isinstance" p1) [a, .Name (istN t) p2] [] pos) (fun ρ S => (fa ρ S).bind fun x S1 => Rs.of ((isiD x t S1).map .bl) S1) := by
  obtain ⟨ta, pa, ga⟩ := ha
  · obtain ⟨n, hn1, hn2⟩ := hb
    have pb : PE X (.Name (istN t) p2) (tC (.ty n)) := pe_bltn hg2 hm2 hn2 rfl hn hd
    have pc : PA X [a, .Name (istN t) p2] (tCons ta (tCons (tC (.ty n)) tNil)) := pa_cons pa (pa_cons pb pa_nil (by rfl)) (starEach_ns ns)
    refine ⟨_, pe_callB (call_isi) hg hm (by decide +kernel) pc (by decide) (by decide) (starEach_ns ns) (any_ns (by rfl)), fun σ H L ρ S Q s e h => ?_⟩
    refine ga.first s e (fun _ _ z => z) h fun x S1 v H1 L1 F p1 e1 h1 => ?_
    obtain ⟨d, hd, q⟩ := sat_of h1
    cases hi : isiD x t S1 with
    | none => rw [hi] at hd; cases hd
    | some k =>
      rw [hi] at hd
      cases hd
      obtain ⟨n', ty, h3, h4, h5, h6⟩ := isi_kit p1.sim p1.rep hi
      have en : n = n' := by
        rw [hn2] at h4
        injection h4 with h4; injection h4
      subst en
      exact ⟨v, .ty n, ty, .type n, k, rfl, .ty n, hK ▸ h5, hK ▸ h6, q _ H1 L1 [] ⟨p1.ext, p1.sim, .bl _, Fr.nil _ _⟩⟩
end
end Nv
/-! Nv: list(..), tuple(..). -/
namespace Nv
open PySem PySem.Spec PyProof.Rows L2
section
variable {C : Cxt} {R : XR} {X : Cx} {E : XK} {pos p0 : Pos} {a b c e : Expr} {fa fb fc : AEnv → Store → Rs D}
theorem ee_bltT {x : Str} {T : String} {es : List Expr} {r : List V → Hp → VK → Prop} {g : List D → Store → Option D} {fs : AEnv → Store → Rs (List D)} (hc : CallR X (.type T) r) (hr : GoodC C r g) (hg : Gl X x) (hm : X.mg x = none) (hv : bootBuiltins x = some (.type T))
    (hn : x ≠ "__name__") (hd : (x == ("__debug__" : Str)) = false) (ns : noStar (e :: es) = true) (ha : EA C R X E (e :: es) fs) : EE C R X E (.Call (.Name x p0) (e :: es) [] pos) (fun ρ S => (fs ρ S).bind fun xs S1 => Rs.of (g xs S1) S1) := by
  obtain ⟨ta, pa, ga⟩ := ha
  have ns' : noStar1 e = true ∧ noStar es = true := by
    unfold noStar at ns ⊢
    rw [List.all_cons, Bool.and_eq_true] at ns
    exact ns
  refine ⟨_, pe_callTy hc hg hm hv pa hn hd (starEach_ns ns'.1) (any_ns ns'.2), fun σ H L ρ S Q s e h => ?_⟩
  refine ga.first s e (fun _ _ z => z) h fun xs S1 vs H1 L1 F p1 e1 h1 => ?_
  obtain ⟨d, hd, q⟩ := sat_of h1
  exact hr H L H1 L1 S1 xs vs F d Q p1.ext p1.sim p1.rep p1.fr hd q
theorem good_list : GoodC C (fun xs H Q => ∃ p ys, xs = [.ref p] ∧ (SqL C.K H p ys ∨ SqT C.K H p ys) ∧ ∀ l, H l = none → Q (.ref l) (upd H l (.lst ys))) (bltD .list) := by
  intro H0 L0 H L S xs vs F d Q e s r fr hd q
  match xs, hd with
  | [x], hd =>
    obtain ⟨v, rfl, rx⟩ := r.one
    have hd : (seqOf x S).map (fun xs => D.new (.lst xs)) = some d := hd
    cases hs : seqOf x S with
    | none => rw [hs] at hd; cases hd
    | some ys =>
      rw [hs] at hd
      cases hd
      obtain ⟨a, vs, G, rfl, rs, sub, w⟩ := seq_of s rx hs
      refine ⟨a, vs, rfl, w.imp (·.1) (·.1), fun l hl => q _ _ L _ (post_lst e s rs (fr.sub sub) hl)⟩
  | [], hd => cases hd
  | _ :: _ :: _, hd => cases hd
theorem good_tuple : GoodC C (fun xs H Q => ∃ p ys, xs = [.ref p] ∧ ((SqL C.K H p ys ∧ ∀ l, H l = none → Q (.ref l) (upd H l (.tup ys))) ∨ (SqT C.K H p ys ∧ Q (.ref p) H))) (bltD .tuple) := by
  intro H0 L0 H L S xs vs F d Q e s r fr hd q
  match xs, hd with
  | [x], hd =>
    obtain ⟨v, rfl, rx⟩ := r.one
    have hd : (seqOf x S).map D.tup = some d := hd
    cases hs : seqOf x S with
    | none => rw [hs] at hd; cases hd
    | some ys =>
      rw [hs] at hd
      cases hd
      obtain ⟨a, vs, G, rfl, rs, sub, w⟩ := seq_of s rx hs
      refine ⟨a, vs, rfl, ?_⟩
      rcases w with ⟨w, _⟩ | ⟨w, hx⟩
      · exact .inl ⟨w, fun l hl => q _ _ L _ (post_tup e s rs (fr.sub sub) hl)⟩
      · subst hx
        exact .inr ⟨w, q _ H L _ (post_same e s rx fr (List.Sublist.refl _))⟩
  | [], hd => cases hd
  | _ :: _ :: _, hd => cases hd
end
end Nv
/-! Nv: made objects become cells; calls of the text's own functions, methods, classes. -/
namespace Nv
open PySem PySem.Spec PyProof.Rows L2
section
variable {C : Cxt}
/-- the cells L grow by M -/
theorem car_grow {H : Hp} {L M F : List Addr} : Car H L H (L ++ M) F :=
  ⟨fun _ _ h => h, fun _ _ _ h => h, fun n a h => by rw [List.getElem?_append_left (List.getElem?_eq_some_iff.mp h).1]; exact h, fun _ _ _ h => h⟩
theorem Cell.grow {H : Hp} {L M : List Addr} {a : Addr} {o : O} (c : Cell C H L a o) : Cell C H (L ++ M) a o := by
  cases o with
  | frz xs => obtain ⟨ob, vs, e1, e2⟩ := c; exact ⟨ob, vs, e1, e2.car car_grow⟩
  | lst xs => obtain ⟨ho, e1, e2⟩ := c; exact ⟨ho, e1, e2.car car_grow⟩
  | dct xs => obtain ⟨ho, e1, e2⟩ := c; exact ⟨ho, e1, e2.car car_grow⟩
  | ins c' xs => obtain ⟨ho, e1, e2⟩ := c; exact ⟨ho, e1, e2.car car_grow⟩
/-- one cell more -/
theorem SimS.push {H : Hp} {L : List Addr} {S : Store} {a : Addr} {o : O} (s : SimS C H L S) (ha : a ∉ L) (c : Cell C H (L ++ [a]) a o) : SimS C H (L ++ [a]) (S ++ [o]) := by
  refine ⟨by rw [List.length_append, List.length_append, s.len]; rfl, ?_, fun n p b h1 h2 => ?_⟩
  · rw [List.nodup_append]
    exact ⟨s.nd, by simp, fun x hx y hy => by simp at hy; subst hy; exact fun e => ha (e ▸ hx)⟩
  · by_cases hn : n < S.length
    · rw [List.getElem?_append_left hn] at h1
      rw [List.getElem?_append_left (by rw [s.len]; exact hn)] at h2
      exact (s.cell n p b h1 h2).grow
    · have hl : (S ++ [o]).length = S.length + 1 := by simp
      have hn2 : n < S.length + 1 := by rw [← hl]; exact (List.getElem?_eq_some_iff.mp h1).1
      have e : n = S.length := by omega
      subst e
      rw [List.getElem?_append_right (Nat.le_refl _)] at h1
      rw [List.getElem?_append_right (by rw [s.len] <;> exact Nat.le_refl _)] at h2
      simp [s.len] at h1 h2
      subst h1 h2
      exact c
/-- what mat gives -/
def MatOk (H : Hp) (L F : List Addr) (S' : Store) (R' : List Addr → Prop) : Prop := ∃ M, SimS C H (L ++ M) S' ∧ R' (L ++ M) ∧ ∀ a ∈ M, a ∈ F
mutual
theorem mat_ok : ∀ (d : D) {H : Hp} {L F : List Addr} {S : Store} {v : V}, SimS C H L S → Rep C H L d v F → F.Nodup → (∀ a ∈ F, a ∉ L) → MatOk (C := C) H L F (mat d S).2 (fun L' => Rep C H L' (mat d S).1 v [])
  | .non, H, L, F, S, v, s, r, _, _ => ⟨[], by rw [List.append_nil]; exact s, by cases r; exact .non, by simp⟩
  | .bl b, H, L, F, S, v, s, r, _, _ => ⟨[], by rw [List.append_nil]; exact s, by cases r; exact .bl b, by simp⟩
  | .int i, H, L, F, S, v, s, r, _, _ => ⟨[], by rw [List.append_nil]; exact s, by cases r; exact .int i, by simp⟩
  | .str z, H, L, F, S, v, s, r, _, _ => ⟨[], by rw [List.append_nil]; exact s, by cases r; exact .str z, by simp⟩
  | .ref n, H, L, F, S, v, s, r, _, _ => ⟨[], by rw [List.append_nil]; exact s, by cases r with | ref h => rw [List.append_nil]; exact Rep.ref h, by simp⟩
  | .tup xs, H, L, F, S, v, s, r, nd, ou => by
    obtain ⟨a, vs, rfl, ht, rs⟩ := r.tup_inv
    obtain ⟨M, s', r', m⟩ := mats_ok xs s rs nd ou
    exact ⟨M, s', .tup ht r', m⟩
  | .new o, H, L, F, S, v, s, r, nd, ou => by
    cases r with
    | new ha ro =>
      rename_i a ho F'
      have nd' := List.nodup_cons.mp nd
      obtain ⟨M, s', r', m⟩ := matO_ok o s ro nd'.2 (fun b hb => ou b (List.mem_cons_of_mem _ hb)) ha (fun q => nd'.1 q)
      obtain ⟨c, hn⟩ := r'
      have na : a ∉ L ++ M := fun h => (List.mem_append.mp h).elim (fun q => ou a (List.mem_cons_self ..) q) fun q => nd'.1 (m a q)
      refine ⟨M ++ [a], ?_, ?_, fun b hb => ?_⟩
      · rw [← List.append_assoc]
        exact s'.push na c.grow
      · refine .ref ?_
        rw [← List.append_assoc, List.getElem?_append_right (by rw [s'.len] <;> exact Nat.le_refl _), s'.len]
        simp
      · rcases List.mem_append.mp hb with h | h
        · exact List.mem_cons_of_mem _ (m b h)
        · simp at h; subst h; exact List.mem_cons_self ..
theorem mats_ok : ∀ (d : List D) {H : Hp} {L F : List Addr} {S : Store} {v : List V}, SimS C H L S → Reps C H L d v F → F.Nodup → (∀ a ∈ F, a ∉ L) → MatOk (C := C) H L F (mats d S).2 (fun L' => Reps C H L' (mats d S).1 v [])
  | [], H, L, F, S, v, s, r, _, _ => ⟨[], by rw [List.append_nil]; exact s, by cases r; exact .nil, by simp⟩
  | x :: xs, H, L, F, S, v, s, r, nd, ou => by
    cases r with
    | cons r1 r2 =>
      rename_i v1 F1 vs F2
      rw [List.nodup_append] at nd
      obtain ⟨M1, s1, q1, m1⟩ := mat_ok x s r1 nd.1 (fun a ha => ou a (List.mem_append_left _ ha))
      obtain ⟨M2, s2, q2, m2⟩ := mats_ok xs s1 (r2.car car_grow) nd.2.1 (fun a ha h => (List.mem_append.mp h).elim (ou a (List.mem_append_right _ ha)) fun q => nd.2.2 a (m1 a q) a ha rfl)
      refine ⟨M1 ++ M2, by rw [← List.append_assoc]; exact s2, ?_, fun a ha => (List.mem_append.mp ha).elim (fun q => List.mem_append_left _ (m1 a q)) fun q => List.mem_append_right _ (m2 a q)⟩
      rw [← List.append_assoc]
      exact .cons (F := []) (G := []) (q1.car car_grow) q2
theorem matO_ok : ∀ (o : O) {H : Hp} {L F : List Addr} {S : Store} {ho : HO} {a : Addr}, SimS C H L S → RepO C H L o ho F → F.Nodup → (∀ a ∈ F, a ∉ L) → H a = some ho → a ∉ F →
    MatOk (C := C) H L F (matO o S).2 (fun L' => Cell C H L' a (matO o S).1 ∧ True)
  | .lst xs, H, L, F, S, ho, a, s, r, nd, ou, ha, _ => by
    cases r with
    | lst rs =>
      obtain ⟨M, s', r', m⟩ := mats_ok xs s rs nd ou
      exact ⟨M, s', ⟨⟨_, ha, .lst r'⟩, trivial⟩, m⟩
  | .frz xs, H, L, F, S, ho, a, s, r, nd, ou, ha, _ => by cases r
  | .dct kvs, H, L, F, S, ho, a, s, r, nd, ou, ha, _ => by
    cases r with
    | dct rs =>
      obtain ⟨M, s', r', m⟩ := matKs_ok kvs s rs nd ou
      exact ⟨M, s', ⟨⟨_, ha, .dct r'⟩, trivial⟩, m⟩
  | .ins c fs, H, L, F, S, ho, a, s, r, nd, ou, ha, _ => by
    cases r with
    | ins q rs =>
      obtain ⟨M, s', r', m⟩ := matFs_ok fs s rs nd ou
      exact ⟨M, s', ⟨⟨_, ha, .ins q r'⟩, trivial⟩, m⟩
theorem matKs_ok : ∀ (d : List (D × D)) {H : Hp} {L F : List Addr} {S : Store} {v : List (Key × V)}, SimS C H L S → RepKs C H L d v F → F.Nodup → (∀ a ∈ F, a ∉ L) → MatOk (C := C) H L F (matKs d S).2 (fun L' => RepKs C H L' (matKs d S).1 v [])
  | [], H, L, F, S, v, s, r, _, _ => ⟨[], by rw [List.append_nil]; exact s, by cases r; exact .nil, by simp⟩
  | (k, x) :: xs, H, L, F, S, v, s, r, nd, ou => by
    cases r with
    | cons kk r1 r2 =>
      rw [List.nodup_append] at nd
      obtain ⟨M1, s1, q1, m1⟩ := mat_ok x s r1 nd.1 (fun a ha => ou a (List.mem_append_left _ ha))
      obtain ⟨M2, s2, q2, m2⟩ := matKs_ok xs s1 (r2.car car_grow) nd.2.1 (fun a ha h => (List.mem_append.mp h).elim (ou a (List.mem_append_right _ ha)) fun q => nd.2.2 a (m1 a q) a ha rfl)
      refine ⟨M1 ++ M2, by rw [← List.append_assoc]; exact s2, ?_, fun a ha => (List.mem_append.mp ha).elim (fun q => List.mem_append_left _ (m1 a q)) fun q => List.mem_append_right _ (m2 a q)⟩
      rw [← List.append_assoc]
      exact .cons (F := []) (G := []) kk (q1.car car_grow) q2
theorem matFs_ok : ∀ (d : List (Nat × D)) {H : Hp} {L F : List Addr} {S : Store} {v : List (Str × V)}, SimS C H L S → RepFs C H L d v F → F.Nodup → (∀ a ∈ F, a ∉ L) → MatOk (C := C) H L F (matFs d S).2 (fun L' => RepFs C H L' (matFs d S).1 v [])
  | [], H, L, F, S, v, s, r, _, _ => ⟨[], by rw [List.append_nil]; exact s, by cases r; exact .nil, by simp⟩
  | (k, x) :: xs, H, L, F, S, v, s, r, nd, ou => by
    cases r with
    | cons r1 r2 =>
      rw [List.nodup_append] at nd
      obtain ⟨M1, s1, q1, m1⟩ := mat_ok x s r1 nd.1 (fun a ha => ou a (List.mem_append_left _ ha))
      obtain ⟨M2, s2, q2, m2⟩ := matFs_ok xs s1 (r2.car car_grow) nd.2.1 (fun a ha h => (List.mem_append.mp h).elim (ou a (List.mem_append_right _ ha)) fun q => nd.2.2 a (m1 a q) a ha rfl)
      refine ⟨M1 ++ M2, by rw [← List.append_assoc]; exact s2, ?_, fun a ha => (List.mem_append.mp ha).elim (fun q => List.mem_append_left _ (m1 a q)) fun q => List.mem_append_right _ (m2 a q)⟩
      rw [← List.append_assoc]
      exact .cons (F := []) (G := []) (q1.car car_grow) q2
end
/-- the cells grow by a result's made objects -/
theorem Ext.grow {H H' : Hp} {L L' F M : List Addr} (e : Ext H L H' L') (f : Fr H F L') (m : ∀ a ∈ M, a ∈ F) : Ext H L H' (L' ++ M) := by
  obtain ⟨N, e1, n1⟩ := e.pre
  refine ⟨⟨N ++ M, by rw [e1, List.append_assoc], fun a ha => ?_⟩, e.frame, e.tups, e.frzs, e.dom⟩
  rcases List.mem_append.mp ha with q | q
  · exact n1 a q
  · exact f.new a (m a q)
/-- the same for what comes behind: nothing of it is used up -/
theorem Ext.growL {H : Hp} {L M : List Addr} (m : ∀ a ∈ M, H a = none) : Ext H L H (L ++ M) := ⟨⟨M, rfl, m⟩, fun _ _ _ h => h, fun _ _ h => h, fun _ _ _ h => h, fun _ h => h⟩
end
/-! ### a def of the text -/
/-- a def's promise: what its evaluator says -/
def spF (C : Cxt) (R : XR) (n : Nat) (g : List D → Store → Rs D) : Sp := fun vs H Q E => vs.length = n ∧ ∃ (L : List Addr) (S : Store) (ds : List D), SimS C H L S ∧ Reps C H L ds vs [] ∧ (g ds S).sat (OkW C H L Q) (ExW C R E H L)
theorem spF_len {C : Cxt} {R : XR} {n : Nat} {g : List D → Store → Rs D} {ps : List Str} (hn : ps.length = n) (vs : List V) (H : Hp) (Q : VK) (E : XK) (h : spF C R n g vs H Q E) : vs.length = ps.length := h.1.trans hn.symm
/-- a def may be called here -/
structure FnC (C : Cxt) (R : XR) (X : Cx) (E : XK) (nm : Str) (n : Nat) (g : List D → Store → Rs D) : Prop where
  nd : (nm == ("__debug__" : Str)) = false
  ex : ∃ (CX : CXT) (k : Nat) (f : Addr) (fd : FuncData) (ps : List Str), FnOk X.prog X.w X.K X.mg X.base CX k f fd ps (spF C R n g) ∧ Room k X.A ∧ X.mg nm = some (.ref f) ∧ PySem.W.keepIn X.K (.ref f) = true ∧ Binds X.K fd ps [] ∧ Passes CX X E
section
variable {C : Cxt} {R : XR} {X : Cx} {E : XK} {pos p0 : Pos} {a b c e : Expr} {es : List Expr} {fa fb fc : AEnv → Store → Rs D} {fs : AEnv → Store → Rs (List D)}
/-- the arguments become cells, then the callee's promise -/
theorem spF_of {n : Nat} {g : List D → Store → Rs D} {H H1 : Hp} {L L1 F : List Addr} {S1 : Store} {xs : List D} {vs : List V} {Q : VK} (p : PostL C H L S1 xs vs H1 L1 F) (hn : ∀ ds : List D, ds.length ≠ n → ∀ S, g ds S = .stuck)
    (h : (g (mats xs S1).1 (mats xs S1).2).sat (OkW C H L Q) (ExW C R E H L)) : spF C R n g vs H1 Q E := by
  obtain ⟨M, s', r', m⟩ := mats_ok xs p.sim p.rep p.fr.nd p.fr.out
  have ex : Ext H L H1 (L1 ++ M) := p.ext.grow p.fr m
  refine ⟨?_, L1 ++ M, _, _, s', r', ?_⟩
  · rw [← r'.length]
    apply Classical.byContradiction
    intro q
    rw [hn _ q] at h
    exact h
  · exact sat_mono h (fun d S' z v H' L' F' q => z v H' L' F' ⟨ex.trans q.ext, q.sim, q.rep, fun b hb => ex.dom b (q.fr.new b hb), q.fr.nd, q.fr.out⟩) fun _ _ z => z.later ex
theorem ee_call {nm : Str} {n : Nat} {g : List D → Store → Rs D} (hf : FnC C R X E nm n g) (hg : Gl X nm) (hn : ∀ ds : List D, ds.length ≠ n → ∀ S, g ds S = .stuck) (ns : noStar es = true) (ha : EA C R X E es fs) (h0 : es = [] → fs = fun _ S => .ok [] S) :
    EE C R X E (.Call (.Name nm p0) es [] pos) (fun ρ S => (fs ρ S).bind fun xs S1 => g (mats xs S1).1 (mats xs S1).2) := by
  obtain ⟨CX, k, f, fd, ps, F, hr, hm, hk, hb, hx⟩ := hf.ex
  have good : ∀ ta, GoodA C R E ta fs → GoodE C R E (tCall (spF C R n g) [] E ta) (fun ρ S => (fs ρ S).bind fun xs S1 => g (mats xs S1).1 (mats xs S1).2) := fun ta ga σ H L ρ S Q s e h => by
    refine ga.first s e (fun _ _ z => z) h fun xs S1 vs H1 L1 F' p1 e1 h1 => ?_
    show spF C R n g (vs ++ []) H1 Q E
    rw [List.append_nil]
    exact spF_of p1 hn h1
  cases es with
  | nil =>
    have e0 := h0 rfl
    subst e0
    obtain ⟨_, _, ga⟩ : EA C R X E [] (fun _ S => .ok [] S) := ea_nil
    exact ⟨_, pe_call0 F hr hg hm hk hb .nil hx hf.nd, good tNil fun σ H L ρ S Q s e h => h [] H L [] ⟨Ext.refl H L, s, .nil, Fr.nil H L⟩⟩
  | cons e0 es =>
    obtain ⟨ta, pa, ga⟩ := ha
    have ns' : noStar1 e0 = true ∧ noStar es = true := by
      unfold noStar at ns ⊢
      rw [List.all_cons, Bool.and_eq_true] at ns
      exact ns
    exact ⟨_, pe_call F hr hg hm hk hb .nil hx pa hf.nd (starEach_ns ns'.1) (any_ns ns'.2), good ta ga⟩
end
end Nv
/-! Nv: cells written; methods, classes, list methods. -/
namespace Nv
open PySem PySem.Spec PyProof.Rows L2
section
variable {C : Cxt}
/-! ### the store only grows by mat -/
mutual
theorem mat_pre : ∀ (d : D) (S : Store), ∃ T, (mat d S).2 = S ++ T
  | .non, S => ⟨[], (List.append_nil S).symm⟩
  | .bl _, S => ⟨[], (List.append_nil S).symm⟩
  | .int _, S => ⟨[], (List.append_nil S).symm⟩
  | .str _, S => ⟨[], (List.append_nil S).symm⟩
  | .ref _, S => ⟨[], (List.append_nil S).symm⟩
  | .tup xs, S => mats_pre xs S
  | .new o, S => by
    obtain ⟨T, e⟩ := matO_pre o S
    exact ⟨T ++ [(matO o S).1], by show (matO o S).2 ++ [(matO o S).1] = _; rw [e, List.append_assoc]⟩
theorem mats_pre : ∀ (d : List D) (S : Store), ∃ T, (mats d S).2 = S ++ T
  | [], S => ⟨[], (List.append_nil S).symm⟩
  | x :: xs, S => by
    obtain ⟨T, e⟩ := mat_pre x S
    obtain ⟨T2, e2⟩ := mats_pre xs (mat x S).2
    exact ⟨T ++ T2, by show (mats xs (mat x S).2).2 = _; rw [e2, e, List.append_assoc]⟩
theorem matO_pre : ∀ (d : O) (S : Store), ∃ T, (matO d S).2 = S ++ T
  | .lst xs, S => mats_pre xs S
  | .frz xs, S => mats_pre xs S
  | .dct xs, S => matKs_pre xs S
  | .ins _ xs, S => matFs_pre xs S
theorem matKs_pre : ∀ (d : List (D × D)) (S : Store), ∃ T, (matKs d S).2 = S ++ T
  | [], S => ⟨[], (List.append_nil S).symm⟩
  | (k, x) :: xs, S => by
    obtain ⟨T, e⟩ := mat_pre x S
    obtain ⟨T2, e2⟩ := matKs_pre xs (mat x S).2
    exact ⟨T ++ T2, by show (matKs xs (mat x S).2).2 = _; rw [e2, e, List.append_assoc]⟩
theorem matFs_pre : ∀ (d : List (Nat × D)) (S : Store), ∃ T, (matFs d S).2 = S ++ T
  | [], S => ⟨[], (List.append_nil S).symm⟩
  | (k, x) :: xs, S => by
    obtain ⟨T, e⟩ := mat_pre x S
    obtain ⟨T2, e2⟩ := matFs_pre xs (mat x S).2
    exact ⟨T ++ T2, by show (matFs xs (mat x S).2).2 = _; rw [e2, e, List.append_assoc]⟩
end
theorem mat_get {d : D} {S : Store} {n : Nat} {o : O} (h : S[n]? = some o) : (mat d S).2[n]? = some o := by
  obtain ⟨T, e⟩ := mat_pre d S
  rw [e, List.getElem?_append_left (List.getElem?_eq_some_iff.mp h).1]; exact h
/-! ### a cell is written -/
def mutO : HO → Bool
  | .lst _ => true
  | .dK _ => true
  | .ins _ _ _ => true
  | _ => false
theorem Ext.write {H : Hp} {L : List Addr} {l : Addr} {ho ho' : HO} (hl : l ∈ L) (h : H l = some ho) (m : mutO ho = true) : Ext H L (upd H l ho') L := by
  refine ⟨⟨[], by simp, by simp⟩, fun a o hn q => ?_, fun b xs q => ?_, fun b o u q => ?_, fun a q => ?_⟩
  · have ne : a ≠ l := fun e => hn (by rw [e]; exact hl)
    rw [upd_ne ne]; exact q
  · rw [upd_ne]
    · exact q
    · intro e; rw [e, h] at q; cases q; cases m
  · rw [upd_ne]
    · exact q
    · intro e; rw [e, h] at q; cases q; cases m
  · by_cases e : a = l
    · rw [e, upd_same] at q; cases q
    · rwa [upd_ne e] at q
theorem SimS.write {H : Hp} {L : List Addr} {S : Store} {l : Addr} {n : Nat} {o' : O} {ho ho' : HO} (s : SimS C H L S) (hl : L[n]? = some l) (h : H l = some ho) (m : mutO ho = true) (r : RepO C H L o' ho' []) (nf : ∀ xs, o' ≠ .frz xs) :
    SimS C (upd H l ho') L (S.set n o') := by
  have ext : Ext H L (upd H l ho') L := Ext.write (List.mem_of_getElem? hl) h m
  refine ⟨by rw [List.length_set]; exact s.len, s.nd, fun k p a h1 h2 => ?_⟩
  by_cases e : k = n
  · subst e
    rw [hl] at h2; cases h2
    have hk : k < S.length := by rw [← s.len]; exact (List.getElem?_eq_some_iff.mp hl).1
    rw [List.getElem?_set_self hk] at h1
    cases h1
    have c : RepO C (upd H l ho') L o' ho' [] := r.car ext.car0
    cases o' with
    | frz xs => exact absurd rfl (nf xs)
    | lst xs => exact ⟨ho', upd_same, c⟩
    | dct xs => exact ⟨ho', upd_same, c⟩
    | ins c' xs => exact ⟨ho', upd_same, c⟩
  · rw [List.getElem?_set_ne (Ne.symm e)] at h1
    have ne : a ≠ l := by
      intro q
      subst q
      obtain ⟨a1, b1⟩ := List.getElem?_eq_some_iff.mp hl
      obtain ⟨a2, b2⟩ := List.getElem?_eq_some_iff.mp h2
      exact e ((List.getElem_inj s.nd).mp (b2.trans b1.symm))
    have k' := s.cell k p a h1 h2
    cases p with
    | frz xs =>
      obtain ⟨ob, vs, e1, e2⟩ := k'
      exact ⟨ob, vs, by rw [upd_ne ne]; exact e1, e2.car ext.car0⟩
    | lst xs => obtain ⟨ho, e1, e2⟩ := k'; exact ⟨ho, by rw [upd_ne ne]; exact e1, e2.car ext.car0⟩
    | dct xs => obtain ⟨ho, e1, e2⟩ := k'; exact ⟨ho, by rw [upd_ne ne]; exact e1, e2.car ext.car0⟩
    | ins c xs => obtain ⟨ho, e1, e2⟩ := k'; exact ⟨ho, by rw [upd_ne ne]; exact e1, e2.car ext.car0⟩
/-! ### a result becomes a cell, or stays -/
theorem Post.mat {H H' : Hp} {L L' F : List Addr} {S : Store} {d : D} {v : V} (p : Post C H L S d v H' L' F) : ∃ M, Post C H L (mat d S).2 (mat d S).1 v H' (L' ++ M) [] ∧ ∀ a ∈ M, a ∈ F := by
  obtain ⟨M, s', r', m⟩ := mat_ok d p.sim p.rep p.fr.nd p.fr.out
  exact ⟨M, ⟨p.ext.grow p.fr m, s', r', Fr.nil _ _⟩, m⟩
theorem PostL.mats {H H' : Hp} {L L' F : List Addr} {S : Store} {d : List D} {v : List V} (p : PostL C H L S d v H' L' F) : ∃ M, PostL C H L (mats d S).2 (mats d S).1 v H' (L' ++ M) [] ∧ ∀ a ∈ M, a ∈ F := by
  obtain ⟨M, s', r', m⟩ := mats_ok d p.sim p.rep p.fr.nd p.fr.out
  exact ⟨M, ⟨p.ext.grow p.fr m, s', r', Fr.nil _ _⟩, m⟩
theorem SimE.grow {H : Hp} {L M : List Addr} {ρ : AEnv} {σ : L2.St} (e : SimE C H L ρ σ) : SimE C H (L ++ M) ρ σ := ⟨e.1, fun i d h => by
  obtain ⟨v, h1, h2⟩ := e.2 i d h
  exact ⟨v, h1, h2.car car_grow⟩⟩
end
/-! ### methods -/
/-- an own method may be called here -/
structure MtC (C : Cxt) (R : XR) (X : Cx) (E : XK) (c : Nat) (m : Str) (n : Nat) (g : List D → Store → Rs D) : Prop where
  cl : Cls X.K (C.CA c)
  ex : ∃ (CX : CXT) (k : Nat) (f : Addr) (fd : FuncData) (ps : List Str), FnOk X.prog X.w X.K X.mg X.base CX k f fd ps (spF C R n g) ∧ Room k X.A ∧ Meth X.K (C.CA c) m f ∧ Binds X.K fd ps [] ∧ Passes CX X E
/-- a class may be called here, its __init__ plainly -/
structure MkC (C : Cxt) (R : XR) (X : Cx) (E : XK) (nm : Str) (c : Nat) (n : Nat) (g : List D → Store → Rs D) : Prop where
  nd : (nm == ("__debug__" : Str)) = false
  lt : c < C.nc
  mg : X.mg nm = some (.ref (C.CA c))
  ex : ∃ (CX : CXT) (k : Nat) (f : Addr) (fd : FuncData) (ps : List Str), FnOk X.prog X.w X.K X.mg X.base CX k f fd ps (spF C R n g) ∧ Room (k + 1) X.A ∧ Mk X.K (C.CA c) f ∧ Binds X.K fd ps [] ∧ Passes CX X E
/-- .. with keywords: np positional arguments, the keywords' names, how they are put in order -/
structure MkK (C : Cxt) (R : XR) (X : Cx) (E : XK) (nm : Str) (c : Nat) (n : Nat) (g : List D → Store → Rs D) (np : Nat) (ks : List Str) (ds : List (Nat ⊕ D)) : Prop where
  nd : (nm == ("__debug__" : Str)) = false
  lt : c < C.nc
  mg : X.mg nm = some (.ref (C.CA c))
  ex : ∃ (CX : CXT) (k : Nat) (f : Addr) (fd : FuncData) (ps : List Str) (gV : List V → List V → List V) (gu : List Value → List Value → List Value), FnOk X.prog X.w X.K X.mg X.base CX k f fd ps (spF C R n g) ∧ Room (k + 1) X.A ∧ Mk X.K (C.CA c) f ∧
    KBn X.K fd ps (np + 1) ks gu gV ∧ Passes CX X E ∧ ∀ (H : Hp) (L : List Addr) (xs ys : List D) (vs zs : List V), xs.length = np → ys.length = ks.length → Reps C H L xs vs [] → Reps C H L ys zs [] → ∀ v, ∃ ws, gV (v :: vs) zs = v :: ws ∧ Reps C H L (xs ++ kwD ds ys) ws []
section
variable {C : Cxt} {R : XR} {X : Cx} {E : XK} {pos p0 apos : Pos} {a b c e o : Expr} {es : List Expr} {fo fa fb fc : AEnv → Store → Rs D} {fs : AEnv → Store → Rs (List D)}
theorem form_ns {cpos : Pos} {env : Env} {es : List Expr} (h : noStar es = true) (hl : es.length < 30) : methodCallForm (es.length + 0) (backTo cpos (starEach es env)) [] = true := by
  have all : ∀ es : List Expr, noStar es = true → (backTo cpos (starEach es env)).all (fun x => !x.1) = true := by
    intro es
    induction es with
    | nil => intro _; rfl
    | cons e r ih =>
      intro h
      unfold noStar at h
      rw [List.all_cons, Bool.and_eq_true] at h
      rw [starEach_ns h.1]
      have := ih h.2
      simp only [backTo, List.map_cons, List.all_cons] at this ⊢
      rw [this]; rfl
  unfold methodCallForm
  rw [all es h]
  simpa using hl
theorem meth_ht {m : Str} (hb : attributeBase o m X.env (eval o X.env) = eval o X.env) (ns : noStar es = true) (hl : es.length < 30) (hline : (apos.endLine == pos.line) = true) :
    eval (.Call (.Attribute o m apos) es [] pos) X.env = (do
      let ov ← eval o X.env
      standAt apos.atName
      let (f, first) ← holding [ov] (getMethod ov m (plainOf o X.env))
      callWith pos f first (backTo pos (starEach es X.env)) (backToKw pos (keywordEach [] X.env))) := by
  show (do
    let ov ← attributeBase o m X.env (eval o X.env)
    standAt apos.atName
    methodCall o m apos pos X.env ov (es.length + ([] : List Keyword).length) (backTo pos (starEach es X.env)) (backToKw pos (keywordEach [] X.env))) = _
  rw [hb]
  have h2 : ∀ ov, methodCall o m apos pos X.env ov (es.length + ([] : List Keyword).length) (backTo pos (starEach es X.env)) (backToKw pos (keywordEach [] X.env)) = (do
      let (f, first) ← holding [ov] (getMethod ov m (plainOf o X.env))
      callWith pos f first (backTo pos (starEach es X.env)) (backToKw pos (keywordEach [] X.env))) := fun ov => mcall_line (form_ns ns hl) hline
  simp only [h2]
theorem ee_meth {c m f : Nat} {nm : Str} {n : Nat} {g : List D → Store → Rs D} (hf : MtC C R X E c nm n g) (hsym : C.sym m = nm) (inj : ∀ g, C.sym g = C.sym m → g = m) (hn : ∀ ds : List D, ds.length ≠ n → ∀ S, g ds S = .stuck) (hb : attributeBase o nm X.env (eval o X.env) = eval o X.env) (ns : noStar es = true) (hl : es.length < 30) (hline : (apos.endLine == pos.line) = true)
    (ho : EE C R X E o fo) (ha : EA C R X E es fs) (h0 : es = [] → fs = fun _ S => .ok [] S) :
    EE C R X E (.Call (.Attribute o nm apos) es [] pos) (fun ρ S => (fo ρ S).bind fun x S1 => methD c m (mat x S1).1 (mat x S1).2 fun n => (fs ρ (mat x S1).2).bind fun xs S2 => g (.ref n :: (mats xs S2).1) (mats xs S2).2) := by
  obtain ⟨to, po, go⟩ := ho
  obtain ⟨CX, k, f, fd, ps, F, hr, hm, hbi, hx⟩ := hf.ex
  have good : ∀ ta, GoodA C R E ta fs → GoodE C R E (tMeth (C.CA c) nm (spF C R n g) [] E to ta) (fun ρ S => (fo ρ S).bind fun x S1 => methD c m (mat x S1).1 (mat x S1).2 fun n => (fs ρ (mat x S1).2).bind fun xs S2 => g (.ref n :: (mats xs S2).1) (mats xs S2).2) := fun ta ga σ H L ρ S Q s e h => by
    refine go.first s e (fun _ _ z => z) h fun x S1 v H1 L1 F1 p1 e1 h1 => ?_
    obtain ⟨M, p2, _⟩ := p1.mat
    unfold methD at h1
    cases hx1 : (mat x S1).1 with
    | ref k =>
      rw [hx1] at h1 p2
      obtain ⟨_, a', rfl, hl', hc⟩ := p2.sim.at p2.rep
      cases ho : (mat x S1).2[k]? with
      | none => simp only [ho] at h1; exact h1.elim
      | some oo =>
        simp only [ho] at h1
        cases oo with
        | ins c' fs' =>
          simp only at h1
          by_cases hcc : c' = c ∧ fs'.lookup m = none
          · rw [if_pos hcc] at h1
            obtain ⟨rfl, hlk⟩ := hcc
            obtain ⟨dx, vs', h2, h3, hlt⟩ := (hc _ ho).ins
            refine ⟨a', dx, vs', rfl, h2, ?_, ?_⟩
            · rw [← hsym]; exact fs_none (fun g _ => inj g) h3 hlk
            · refine ga.first p2.sim e1.grow (fun _ _ z => z.later p2.ext) h1 fun xs S2 vs H2 L2 F2 p3 e3 h4 => ?_
              show spF C R n g (V.ref a' :: (vs ++ [])) H2 Q E
              rw [List.append_nil]
              exact spF_of (xs := .ref k :: xs) (.cons p2 p3) hn h4
          · rw [if_neg hcc] at h1; exact h1.elim
        | _ => exact h1.elim
    | _ => rw [hx1] at h1; exact h1.elim
  cases es with
  | nil =>
    have e0 := h0 rfl
    subst e0
    exact ⟨_, pe_meth0 po hf.cl hm F hr hbi .nil hx (meth_ht hb ns hl hline), good tNil fun σ H L ρ S Q s e h => h [] H L [] ⟨Ext.refl H L, s, .nil, Fr.nil H L⟩⟩
  | cons e0 es =>
    obtain ⟨ta, pa, ga⟩ := ha
    have ns' : noStar1 e0 = true ∧ noStar es = true := by
      unfold noStar at ns ⊢
      rw [List.all_cons, Bool.and_eq_true] at ns
      exact ns
    exact ⟨_, pe_meth po hf.cl hm F hr hbi .nil hx pa (starEach_ns ns'.1) (any_ns ns'.2) (meth_ht hb ns hl hline), good ta ga⟩
/-! ### classes called -/
theorem sim_made {H : Hp} {L : List Addr} {S : Store} {c : Nat} {x dx : Addr} (s : SimS C H L S) (hc : c < C.nc) (nx : H x = none) (nd : H dx = none) (ne : dx ≠ x) :
    Ext H L (upd (upd H dx (.own x)) x (.ins (C.CA c) dx [])) (L ++ [x]) ∧ SimS C (upd (upd H dx (.own x)) x (.ins (C.CA c) dx [])) (L ++ [x]) (S ++ [.ins c []]) := by
  have e1 : Ext H L (upd H dx (.own x)) L := Ext.new nd
  have nx1 : (upd H dx (.own x)) x = none := by rw [upd_ne (Ne.symm ne)]; exact nx
  have e2 : Ext (upd H dx (.own x)) L (upd (upd H dx (.own x)) x (.ins (C.CA c) dx [])) L := Ext.new nx1
  have s1 := s.new (o := .own x) nd (s.notin nd)
  have s2 := s1.new (o := .ins (C.CA c) dx []) nx1 (s1.notin nx1)
  have e := e1.trans e2
  refine ⟨⟨⟨[x], rfl, by simpa using nx⟩, e.frame, e.tups, e.frzs, e.dom⟩, ?_⟩
  exact s2.push (s1.notin nx1) ⟨_, upd_same, .ins hc .nil⟩
theorem make_good {nm : Str} {c n : Nat} {g : List D → Store → Rs D} {H H1 : Hp} {L L1 F : List Addr} {S1 : Store} {xs : List D} {vs : List V} {Q : VK} (hc : c < C.nc) (hn : ∀ ds : List D, ds.length ≠ n → ∀ S, g ds S = .stuck) (p : PostL C H L S1 xs vs H1 L1 F)
    (h : (makeD c g xs S1).sat (OkW C H L Q) (ExW C R E H L)) (x dx : Addr) (nx : H1 x = none) (nd : H1 dx = none) (ne : dx ≠ x) :
    spF C R n g (.ref x :: vs) (upd (upd H1 dx (.own x)) x (.ins (C.CA c) dx [])) (fun v H2 => v = .non ∧ Q (.ref x) H2) E := by
  obtain ⟨M, p2, _⟩ := p.mats
  obtain ⟨e3, s3⟩ := sim_made p2.sim hc nx nd ne
  have r3 := p2.rep.car e3.car0
  unfold makeD at h
  have h' := sat_bind h
  have hx : ((L1 ++ M) ++ [x])[(mats xs S1).2.length]? = some x := by
    rw [List.getElem?_append_right (by rw [p2.sim.len] <;> exact Nat.le_refl _), p2.sim.len]; simp
  refine ⟨?_, (L1 ++ M) ++ [x], _, .ref (mats xs S1).2.length :: (mats xs S1).1, s3, .cons (F := []) (G := []) (.ref hx) r3, ?_⟩
  · rw [List.length_cons, ← p2.rep.length]
    apply Classical.byContradiction
    intro q
    rw [hn _ (by rw [List.length_cons]; exact q)] at h'
    exact h'
  · refine sat_mono h' (fun d S' z v H' L' F' q => ?_) fun _ _ z => z.later (p2.ext.trans e3)
    cases d with
    | non =>
      obtain ⟨rfl, rfl⟩ := q.rep.non_inv
      refine ⟨rfl, ?_⟩
      obtain ⟨N, en, _⟩ := q.ext.pre
      refine z (.ref x) H' L' [] ⟨(p2.ext.trans e3).trans q.ext, q.sim, .ref ?_, Fr.nil _ _⟩
      rw [en, List.getElem?_append_left (List.getElem?_eq_some_iff.mp hx).1]
      exact hx
    | _ => exact z.elim
theorem ee_make {c n : Nat} {nm : Str} {g : List D → Store → Rs D} (hf : MkC C R X E nm c n g) (hg : Gl X nm) (hn : ∀ ds : List D, ds.length ≠ n → ∀ S, g ds S = .stuck) (ns : noStar es = true) (ha : EA C R X E es fs) (h0 : es = [] → fs = fun _ S => .ok [] S) :
    EE C R X E (.Call (.Name nm p0) es [] pos) (fun ρ S => (fs ρ S).bind fun xs S1 => makeD c g xs S1) := by
  obtain ⟨CX, k, f, fd, ps, F, hr, hm, hb, hx⟩ := hf.ex
  have good : ∀ ta, GoodA C R E ta fs → GoodE C R E (tMake (C.CA c) (spF C R n g) [] E ta) (fun ρ S => (fs ρ S).bind fun xs S1 => makeD c g xs S1) := fun ta ga σ H L ρ S Q s e h => by
    refine ga.first s e (fun _ _ z => z) h fun xs S1 vs H1 L1 F' p1 e1 h1 => ?_
    intro x dx nx nd ne
    rw [List.append_nil]
    exact make_good (nm := nm) hf.lt hn p1 h1 x dx nx nd ne
  cases es with
  | nil =>
    have e0 := h0 rfl
    subst e0
    exact ⟨_, pe_make0 hm F hr hg hf.mg hb .nil hx hf.nd, good tNil fun σ H L ρ S Q s e h => h [] H L [] ⟨Ext.refl H L, s, .nil, Fr.nil H L⟩⟩
  | cons e0 es =>
    obtain ⟨ta, pa, ga⟩ := ha
    have ns' : noStar1 e0 = true ∧ noStar es = true := by
      unfold noStar at ns ⊢
      rw [List.all_cons, Bool.and_eq_true] at ns
      exact ns
    exact ⟨_, pe_make hm F hr hg hf.mg hb .nil hx pa hf.nd (starEach_ns ns'.1) (any_ns ns'.2), good ta ga⟩
/-! ### keywords -/
def EK (C : Cxt) (R : XR) (X : Cx) (E : XK) (kws : List Keyword) (f : AEnv → Store → Rs (List D)) : Prop := ∃ t, PK X kws t ∧ GoodA C R E t f
theorem ek_nil : EK C R X E [] (fun _ S => .ok [] S) := ⟨tNil, pk_nil, fun σ H L ρ S Q s e h => h [] H L [] ⟨Ext.refl H L, s, .nil, Fr.nil H L⟩⟩
theorem ek_cons {k : Option Str} {kpos : Pos} {kws : List Keyword} {f : AEnv → Store → Rs D} {g : AEnv → Store → Rs (List D)} (a : EE C R X E e f) (b : EK C R X E kws g) :
    EK C R X E (⟨k, e, kpos⟩ :: kws) (fun ρ S => (f ρ S).bind fun x S1 => (g ρ S1).bind fun xs S2 => .ok (x :: xs) S2) := by
  obtain ⟨ta, pa, ga⟩ := a
  obtain ⟨tb, pb, gb⟩ := b
  refine ⟨tCons ta tb, pk_cons pa pb, fun σ H L ρ S Q s e h => ?_⟩
  refine ga.first s e (fun _ _ z => z) h fun x S1 v H1 L1 F p1 e1 h1 => ?_
  refine gb.first p1.sim e1 (fun _ _ z => z.later p1.ext) h1 fun xs S2 vs H2 L2 G p2 e2 h2 => ?_
  exact h2 (v :: vs) H2 L2 (F ++ G) (.cons p1 p2)
def kwNames (kws : List Keyword) : List (Option Str) := kws.map fun k => k.1
theorem kw_all {env : Env} : ∀ {kws : List Keyword} {ks : List Str}, kwNames kws = ks.map some → (backToKw pos (keywordEach kws env)).all (·.1.isSome) = true ∧ (backToKw pos (keywordEach kws env)).filterMap (·.1) = ks ∧ (backToKw pos (keywordEach kws env)).any (·.1.isNone) = false
  | [], [], _ => ⟨rfl, rfl, rfl⟩
  | [], _ :: _, h => by cases h
  | ⟨k, e, p⟩ :: r, [], h => by cases h
  | ⟨k, e, p⟩ :: r, q :: ks, h => by
    have h1 : k :: kwNames r = some q :: ks.map some := h
    injection h1 with h2 h3
    obtain ⟨a1, a2, a3⟩ := kw_all (env := env) (kws := r) (ks := ks) h3
    subst h2
    simp only [backToKw, keywordEach, List.map_cons, List.all_cons, List.filterMap_cons, List.any_cons] at a1 a2 a3 ⊢
    exact ⟨by rw [a1]; rfl, by rw [a2], by rw [a3]; rfl⟩
end
end Nv
/-! Nv: classes called with keywords; list methods. -/
namespace Nv
open PySem PySem.Spec PyProof.Rows L2
section
variable {C : Cxt} {R : XR} {X : Cx} {E : XK} {pos p0 apos : Pos} {a b c e o : Expr} {es : List Expr} {fo fa fb fc : AEnv → Store → Rs D} {fs : AEnv → Store → Rs (List D)}
mutual
theorem data_fp {H : Hp} {L : List Addr} : ∀ (d : D) {v : V} {F : List Addr}, isData d = true → Rep C H L d v F → F = []
  | .non, _, _, _, r => by cases r; rfl
  | .bl _, _, _, _, r => by cases r; rfl
  | .int _, _, _, _, r => by cases r; rfl
  | .str _, _, _, _, r => by cases r; rfl
  | .ref _, _, _, h, _ => by cases h
  | .new _, _, _, h, _ => by cases h
  | .tup xs, _, _, h, r => by
    obtain ⟨a, vs, rfl, _, rs⟩ := r.tup_inv
    exact datas_fp xs h rs
theorem datas_fp {H : Hp} {L : List Addr} : ∀ (d : List D) {v : List V} {F : List Addr}, areData d = true → Reps C H L d v F → F = []
  | [], _, _, _, r => by cases r; rfl
  | x :: xs, _, _, h, r => by
    cases r with
    | cons a b =>
      have h' : (isData x && areData xs) = true := h
      rw [Bool.and_eq_true] at h'
      rw [data_fp x h'.1 a, datas_fp xs h'.2 b]; rfl
end
theorem cell_fp {H : Hp} {L : List Addr} {d : D} {v : V} {F : List Addr} (h : isCell d = true) (r : Rep C H L d v F) : F = [] := by
  cases d with
  | tup xs => exact data_fp _ h r
  | new o => cases h
  | non => cases r; rfl
  | bl _ => cases r; rfl
  | int _ => cases r; rfl
  | str _ => cases r; rfl
  | ref _ => cases r; rfl
theorem cells_fp {H : Hp} {L : List Addr} : ∀ {d : List D} {v : List V} {F : List Addr}, d.all isCell = true → Reps C H L d v F → F = []
  | [], _, _, _, r => by cases r; rfl
  | x :: xs, _, _, h, r => by
    cases r with
    | cons a b =>
      rw [List.all_cons, Bool.and_eq_true] at h
      rw [cell_fp h.1 a, cells_fp h.2 b]; rfl
theorem ee_makek {c n np : Nat} {nm : Str} {kws : List Keyword} {ks : List Str} {ds : List (Nat ⊕ D)} {e0 : Expr} {g : List D → Store → Rs D} {fk : AEnv → Store → Rs (List D)} (hf : MkK C R X E nm c n g np ks ds) (hg : Gl X nm) (hn : ∀ ds : List D, ds.length ≠ n → ∀ S, g ds S = .stuck)
    (ns : noStar (e0 :: es) = true) (hk : kwNames kws = ks.map some) (hl : ∀ ρ S xs S1, fs ρ S = .ok xs S1 → xs.length = np) (hl2 : ∀ ρ S xs S1, fk ρ S = .ok xs S1 → xs.length = ks.length) (ha : EA C R X E (e0 :: es) fs) (hkw : EK C R X E kws fk) :
    EE C R X E (.Call (.Name nm p0) (e0 :: es) kws pos) (fun ρ S => (fs ρ S).bind fun xs S1 => (fk ρ S1).bind fun ys S2 => makeKD c g ds xs ys S2) := by
  obtain ⟨CX, k, f, fd, ps, gV, gu, F, hr, hm, hb, hx, hrel⟩ := hf.ex
  obtain ⟨ta, pa, ga⟩ := ha
  obtain ⟨tk, pk, gk⟩ := hkw
  obtain ⟨k1, k2, k3⟩ := kw_all (pos := pos) (env := X.env) hk
  have ns' : noStar1 e0 = true ∧ noStar es = true := by
    unfold noStar at ns ⊢
    rw [List.all_cons, Bool.and_eq_true] at ns
    exact ns
  refine ⟨_, pe_makeK hm F hr hg hf.mg hb hx pa pk k1 k2 hf.nd (starEach_ns ns'.1) (by rw [any_ns ns, k3]; rfl), fun σ H L ρ S Q s e h => ?_⟩
  have h1 := h
  have l1 : ∀ xs S1, fs ρ S = .ok xs S1 → xs.length = np := hl ρ S
  have h2 : ((fs ρ S).bind fun xs S1 => if xs.length = np then (fk ρ S1).bind fun ys S2 => if ys.length = ks.length then makeKD c g ds xs ys S2 else .stuck else .stuck).sat (OkW C H L Q) (ExW C R E H L) := by
    cases hfs : fs ρ S with
    | ok xs S1 =>
      simp only [hfs, Rs.bind] at h1 ⊢
      rw [if_pos (l1 xs S1 hfs)]
      cases hfk : fk ρ S1 with
      | ok ys S2 =>
        simp only [hfk, Rs.bind] at h1 ⊢
        rw [if_pos (hl2 ρ S1 ys S2 hfk)]; exact h1
      | ex x S2 => simp only [hfk, Rs.bind] at h1 ⊢; exact h1
      | stuck => simp only [hfk, Rs.bind] at h1 ⊢; exact h1
    | ex x S1 => simp only [hfs, Rs.bind] at h1 ⊢; exact h1
    | stuck => simp only [hfs, Rs.bind] at h1 ⊢; exact h1
  refine ga.first s e (fun _ _ z => z) h2 fun xs S1 vs H1 L1 F1 p1 e1 h3 => ?_
  by_cases q1 : xs.length = np
  · rw [if_pos q1] at h3
    refine gk.first p1.sim e1 (fun _ _ z => z.later p1.ext) h3 fun ys S2 zs H2 L2 F2 p2 e2 h4 => ?_
    by_cases q2 : ys.length = ks.length
    · rw [if_pos q2] at h4
      unfold makeKD at h4
      by_cases q3 : xs.all isCell = true ∧ ys.all isCell = true
      · rw [if_pos q3] at h4
        obtain ⟨x12, r1, f12⟩ := p1.seqL p2
        have z1 := cells_fp q3.1 r1
        subst z1
        have z2 := cells_fp q3.2 p2.rep
        subst z2
        refine ⟨p1.rep.length ▸ q1, p2.rep.length ▸ q2, fun x dx nx nd ne => ?_⟩
        obtain ⟨ws, hgv, rw'⟩ := hrel H2 L2 xs ys vs zs q1 q2 r1 p2.rep (.ref x)
        rw [hgv]
        exact make_good (nm := nm) hf.lt hn ⟨x12, p2.sim, rw', Fr.nil _ _⟩ h4 x dx nx nd ne
      · rw [if_neg q3] at h4; exact h4.elim
    · rw [if_neg q2] at h4; exact h4.elim
  · rw [if_neg q1] at h3; exact h3.elim
/-! ### list methods -/
theorem ty_list {H : Hp} {L : List Addr} {S : Store} {x : D} {v : V} {F : List Addr} (s : SimS C H L S) (r : Rep C H L x v F) (h : (lstOf x S).isSome = true) : tyV C.K "list" v H := by
  cases hx : lstOf x S with
  | none => rw [hx] at h; cases h
  | some xs =>
    obtain ⟨a, vs, G, rfl, _, _, ha⟩ := lst_of s r hx
    exact .inl ⟨rfl, vs, SqL.of ha⟩
theorem ee_append (hK : X.K = C.K) (hb : attributeBase o "append" X.env (eval o X.env) = eval o X.env) (hline : (apos.endLine == pos.line) = true) (ns : noStar1 a = true) (ho : EE C R X E o fo) (ha : EE C R X E a fa) :
    EE C R X E (.Call (.Attribute o "append" apos) [a] [] pos) (fun ρ S => (fo ρ S).bind fun x S1 => if bmTy .append x S1 = true then ((fa ρ S1).bind fun y S2 => (Rs.ok [] S2).bind fun ys S3 => .ok (y :: ys) S3).bind fun xs S2 => bmD .append x xs S2 else .stuck) := by
  obtain ⟨to, po, go⟩ := ho
  obtain ⟨ta, pa, ga⟩ := ha
  refine ⟨_, pe_bm PySem.F.plainAttrs_list PySem.F.slot_list_append PySem.F.type_list_append mt_append po (pa_cons pa pa_nil (starEach_ns ns)) hb (by rw [starEach_ns ns]; rfl) hline (starEach_ns ns) (any_ns rfl), fun σ H L ρ S Q s e h => ?_⟩
  refine go.first s e (fun _ _ z => z) h fun x S1 v H1 L1 F1 p1 e1 h1 => ?_
  by_cases q1 : bmTy .append x S1 = true
  · rw [if_pos q1] at h1
    refine ⟨hK ▸ ty_list p1.sim p1.rep q1, ?_⟩
    have h1' : ((fa ρ S1).bind fun y S2 => bmD .append x [y] S2).sat (OkW C H L Q) (ExW C R E H L) := by
      cases hfa : fa ρ S1 with
      | ok y S2 => rw [hfa] at h1; exact h1
      | ex y S2 => rw [hfa] at h1; exact h1
      | stuck => rw [hfa] at h1; exact h1
    refine ga.first p1.sim e1 (fun _ _ z => z.later p1.ext) h1' fun y S2 w H2 L2 F2 p2 e2 h2 => ?_
    obtain ⟨x12, r1, f12⟩ := p1.seq p2
    cases x with
    | ref n =>
      obtain ⟨_, l, rfl, hl, hc⟩ := p2.sim.at r1
      unfold bmD at h2
      cases hS : S2[n]? with
      | none => simp only [hS] at h2; exact h2.elim
      | some oo =>
        simp only [hS] at h2
        cases oo with
        | lst xs =>
          simp only at h2
          by_cases q2 : xs.length < sizeLine
          · rw [if_pos q2] at h2
            obtain ⟨M, p3, _⟩ := (post_later p1.ext p2).mat
            have hS3 := mat_get (d := y) hS
            have hl3 : (L2 ++ M)[n]? = some l := by
              rw [List.getElem?_append_left (List.getElem?_eq_some_iff.mp hl).1]; exact hl
            obtain ⟨vs, ha, rv⟩ := (p3.sim.cell n _ l hS3 hl3).lst
            have rl : Reps C H2 (L2 ++ M) (xs ++ [(mat y S2).1]) (vs ++ [w]) [] := rv.append (.cons (F := []) (G := []) p3.rep .nil)
            have ex : Ext H2 (L2 ++ M) (upd H2 l (.lst (vs ++ [w]))) (L2 ++ M) := Ext.write (List.mem_of_getElem? hl3) ha rfl
            refine ⟨l, vs, w, rfl, rfl, ha, by rw [← rv.length]; exact q2, ?_⟩
            exact h2 .non _ (L2 ++ M) [] ⟨p3.ext.trans ex, p3.sim.write hl3 ha rfl (.lst rl) (fun _ z => nomatch z), .non, Fr.nil _ _⟩
          · rw [if_neg q2] at h2; exact h2.elim
        | _ => exact h2.elim
    | _ => exact h2.elim
  · rw [if_neg q1] at h1; exact h1.elim
theorem Reps.dropLast {H : Hp} {L : List Addr} {xs : List D} {vs : List V} (r : Reps C H L xs vs []) : Reps C H L xs.dropLast vs.dropLast [] := by
  obtain ⟨G, h1, h2⟩ := r.take (xs.length - 1)
  have e : G = [] := List.sublist_nil.mp h2
  subst e
  rw [List.dropLast_eq_take, List.dropLast_eq_take, ← r.length]
  exact h1
theorem ee_pop (hK : X.K = C.K) (hb : attributeBase o "pop" X.env (eval o X.env) = eval o X.env) (hline : (apos.endLine == pos.line) = true) (ho : EE C R X E o fo) :
    EE C R X E (.Call (.Attribute o "pop" apos) [] [] pos) (fun ρ S => (fo ρ S).bind fun x S1 => if bmTy .pop x S1 = true then (Rs.ok [] S1).bind fun xs S2 => bmD .pop x xs S2 else .stuck) := by
  obtain ⟨to, po, go⟩ := ho
  refine ⟨_, pe_bm0 PySem.F.plainAttrs_list PySem.F.slot_list_pop PySem.F.type_list_pop mt_pop po hb hline, fun σ H L ρ S Q s e h => ?_⟩
  refine go.first s e (fun _ _ z => z) h fun x S1 v H1 L1 F1 p1 e1 h1 => ?_
  by_cases q1 : bmTy .pop x S1 = true
  · rw [if_pos q1] at h1
    refine ⟨hK ▸ ty_list p1.sim p1.rep q1, ?_⟩
    cases x with
    | ref n =>
      obtain ⟨_, l, rfl, hl, hc⟩ := p1.sim.at p1.rep
      have h2 : (bmD .pop (.ref n) [] S1).sat (OkW C H L Q) (ExW C R E H L) := h1
      unfold bmD at h2
      cases hS : S1[n]? with
      | none => simp only [hS] at h2; exact h2.elim
      | some oo =>
        simp only [hS] at h2
        cases oo with
        | lst xs =>
          simp only at h2
          cases hy : xs[xs.length - 1]? with
          | none => simp only [hy] at h2; exact h2.elim
          | some y =>
            simp only [hy] at h2
            obtain ⟨vs, ha, rv⟩ := (hc _ hS).lst
            obtain ⟨w, G, hw, ry, hG⟩ := rv.at hy
            have eG : G = [] := List.sublist_nil.mp hG
            subst eG
            have ex : Ext H1 L1 (upd H1 l (.lst vs.dropLast)) L1 := Ext.write (List.mem_of_getElem? hl) ha rfl
            refine ⟨l, vs, w, rfl, rfl, ha, by rw [← rv.length]; exact hw, ?_⟩
            exact h2 w _ L1 [] ⟨p1.ext.trans ex, p1.sim.write hl ha rfl (.lst rv.dropLast) (fun _ z => nomatch z), ry.car ex.car0, Fr.nil _ _⟩
        | _ => exact h2.elim
    | _ => exact h1.elim
  · rw [if_neg q1] at h1; exact h1.elim
end
end Nv
/-! Nv: targets and statements. -/
namespace Nv
open PySem PySem.Spec PyProof.Rows L2
/-! ### targets -/
mutual
def G.slots : G → List Nat
  | .name i => [i]
  | .tup gs => slotsL gs
def slotsL : List G → List Nat
  | [] => []
  | g :: gs => g.slots ++ slotsL gs
end
/-- σ' is σ but for the slots -/
def Wip (sl : List Nat) (σ σ' : L2.St) : Prop := σ'.length = σ.length ∧ ∀ i, i ∉ sl → σ'[i]? = σ[i]?
def GoodG (C : Cxt) (t : TG) (sl : List Nat) (f : D → AEnv → Store → Rs AEnv) : Prop :=
  ∀ (H : Hp) (L : List Addr) (S : Store) (ρ : AEnv) (σ : L2.St) (d : D) (v : V) (F : List Addr) (Q : L2.St → Hp → Prop), SimS C H L S → SimE C H L ρ σ → Rep C H L d v F → F.Nodup → (∀ a ∈ F, a ∉ L) →
    (f d ρ S).sat (fun ρ' S' => ∀ σ' M, SimS C H (L ++ M) S' → SimE C H (L ++ M) ρ' σ' → (∀ a ∈ M, a ∈ F) → Wip sl σ σ' → Q σ' H) (fun _ _ => False) → t v σ H Q
def GoodGs (C : Cxt) (t : TGs) (sl : List Nat) (f : List D → AEnv → Store → Rs AEnv) : Prop :=
  ∀ (H : Hp) (L : List Addr) (S : Store) (ρ : AEnv) (σ : L2.St) (d : List D) (v : List V) (F : List Addr) (Q : L2.St → Hp → Prop), SimS C H L S → SimE C H L ρ σ → Reps C H L d v F → F.Nodup → (∀ a ∈ F, a ∉ L) →
    (f d ρ S).sat (fun ρ' S' => ∀ σ' M, SimS C H (L ++ M) S' → SimE C H (L ++ M) ρ' σ' → (∀ a ∈ M, a ∈ F) → Wip sl σ σ' → Q σ' H) (fun _ _ => False) → t v σ H Q
def EG (C : Cxt) (X : Cx) (e : Expr) (sl : List Nat) (f : D → AEnv → Store → Rs AEnv) : Prop := ∃ t, PG X e t ∧ GoodG C t sl f
def EGs (C : Cxt) (X : Cx) (e : List Expr) (sl : List Nat) (f : List D → AEnv → Store → Rs AEnv) : Prop := ∃ t, PGs X e t ∧ GoodGs C t sl f
section
variable {C : Cxt} {R : XR} {X : Cx} {E : XK} {pos p0 apos : Pos} {a b c e o : Expr} {es : List Expr} {fo fa fb fc : AEnv → Store → Rs D} {fs : AEnv → Store → Rs (List D)}
theorem SimE.set {H : Hp} {L : List Addr} {ρ : AEnv} {σ : L2.St} (e : SimE C H L ρ σ) {i : Nat} {d : D} {v : V} (r : Rep C H L d v []) : SimE C H L (ρ.set i (some d)) (σ.set i (some v)) := by
  refine ⟨by rw [List.length_set, List.length_set]; exact e.1, fun j d' h => ?_⟩
  by_cases q : j = i
  · subst q
    have hj : j < ρ.length := by
      have := (List.getElem?_eq_some_iff.mp h).1
      rwa [List.length_set] at this
    rw [List.getElem?_set_self hj] at h
    cases h
    exact ⟨v, List.getElem?_set_self (Nat.lt_of_lt_of_le hj e.1), r⟩
  · rw [List.getElem?_set_ne (Ne.symm q)] at h
    obtain ⟨w, h1, h2⟩ := e.2 j d' h
    exact ⟨w, by rw [List.getElem?_set_ne (Ne.symm q)]; exact h1, h2⟩
theorem eg_name {i : Nat} {x : Str} (hN : X.N.Nodup) (hi : X.N[i]? = some x) (hx : Loc X.env.scope x) (hf : X.fn x = true ∨ X.env.scope.names.lookup x = some .local) : EG C X (.Name x pos) [i] (evalG (.name i)) := by
  refine ⟨gName i, pg_name hN hi hx hf, fun H L S ρ σ d v F Q s e r nd ou h => ?_⟩
  have h' : (Rs.ok (ρ.set i (some (mat d S).1)) (mat d S).2).sat (fun ρ' S' => ∀ σ' M, SimS C H (L ++ M) S' → SimE C H (L ++ M) ρ' σ' → (∀ a ∈ M, a ∈ F) → Wip [i] σ σ' → Q σ' H) (fun _ _ => False) := h
  obtain ⟨M, s', r', m⟩ := mat_ok d s r nd ou
  refine h' (σ.set i (some v)) M s' (e.grow.set r') m ⟨List.length_set, fun j hj => ?_⟩
  exact List.getElem?_set_ne (fun q => hj (by simp [q]))
theorem egs_nil : EGs C X [] [] (evalGs []) := by
  refine ⟨gNil, pgs_nil, fun H L S ρ σ d v F Q s e r nd ou h => ?_⟩
  cases d with
  | nil =>
    cases r
    exact ⟨rfl, h σ [] (by rw [List.append_nil]; exact s) (by rw [List.append_nil]; exact e) (by simp) ⟨rfl, fun _ _ => rfl⟩⟩
  | cons x xs => exact h.elim
theorem egs_cons {g : G} {gs : List G} {sl sl2 : List Nat} (h1 : EG C X e sl (evalG g)) (h2 : EGs C X es sl2 (evalGs gs)) (hs : (assignEach (e :: es) X.env).map (·.2) = assign e X.env :: (assignEach es X.env).map (·.2)) : EGs C X (e :: es) (sl ++ sl2) (evalGs (g :: gs)) := by
  obtain ⟨t, p, gd⟩ := h1
  obtain ⟨u, q, gds⟩ := h2
  refine ⟨gCons t u, pgs_cons p q hs, fun H L S ρ σ d v F Q s e r nd ou h => ?_⟩
  cases d with
  | nil => exact h.elim
  | cons x xs =>
    cases r with
    | cons r1 r2 =>
      rename_i v1 F1 vs F2
      rw [List.nodup_append] at nd
      refine ⟨v1, vs, rfl, ?_⟩
      have h' := sat_bind (r := evalG g x ρ S) (f := fun ρ1 S1 => evalGs gs xs ρ1 S1) h
      refine gd H L S ρ σ x v1 F1 _ s e r1 nd.1 (fun a ha => ou a (List.mem_append_left _ ha)) (sat_mono h' (fun ρ1 S1 z σ1 M1 s1 e1 m1 w1 => ?_) fun _ _ z => z)
      refine gds H (L ++ M1) S1 ρ1 σ1 xs vs F2 Q s1 e1 (r2.car car_grow) nd.2.1 (fun a ha hm => ?_) (sat_mono z (fun ρ2 S2 y σ2 M2 s2 e2 m2 w2 => ?_) fun _ _ z => z)
      · rcases List.mem_append.mp hm with k | k
        · exact ou a (List.mem_append_right _ ha) k
        · exact nd.2.2 a (m1 a k) a ha rfl
      · refine y σ2 (M1 ++ M2) (by rw [← List.append_assoc]; exact s2) (by rw [← List.append_assoc]; exact e2) (fun a ha => (List.mem_append.mp ha).elim (fun k => List.mem_append_left _ (m1 a k)) fun k => List.mem_append_right _ (m2 a k)) ⟨w2.1.trans w1.1, fun i hi => ?_⟩
        rw [w2.2 i (fun k => hi (List.mem_append_right _ k)), w1.2 i (fun k => hi (List.mem_append_left _ k))]
theorem eg_tup {gs : List G} {sl : List Nat} {k n : Nat} (hK : X.K = C.K) (hc : X.calm = true) (h : EGs C X es sl (evalGs gs)) (hl : ∀ xs ρ S ρ' S', evalGs gs xs ρ S = .ok ρ' S' → xs.length = n) (hn : (assignEach es X.env).length = n) (hst : (assignEach es X.env).findIdx? (·.1) = none) : EG C X (.Tuple es k pos) sl (evalG (.tup gs)) := by
  obtain ⟨t, p, gd⟩ := h
  refine ⟨_, pg_tup hc p hn hst, fun H L S ρ σ d v F Q s e r nd ou h => ?_⟩
  cases d with
  | tup xs =>
    obtain ⟨a, vs, rfl, ht, rs⟩ := r.tup_inv
    have h' : (evalGs gs xs ρ S).sat (fun ρ' S' => ∀ σ' M, SimS C H (L ++ M) S' → SimE C H (L ++ M) ρ' σ' → (∀ a ∈ M, a ∈ F) → Wip sl σ σ' → Q σ' H) (fun _ _ => False) := h
    refine ⟨a, vs, rfl, hK ▸ ht, ?_, gd H L S ρ σ xs vs F Q s e rs nd ou h'⟩
    rw [← rs.length]
    cases hg : evalGs gs xs ρ S with
    | ok ρ' S' => exact hl xs ρ S ρ' S' hg
    | ex x S' => rw [hg] at h'; exact h'.elim
    | stuck => rw [hg] at h'; exact h'.elim
  | _ => exact h.elim
mutual
theorem evalG_noex : ∀ (g : G) (x : D) (ρ : AEnv) (S : Store) (y : Exn) (S' : Store), evalG g x ρ S ≠ .ex y S'
  | .name i, x, ρ, S, y, S', h => by cases h
  | .tup gs, .tup xs, ρ, S, y, S', h => evalGs_noex gs xs ρ S y S' h
  | .tup gs, .non, ρ, S, y, S', h => by cases h
  | .tup gs, .bl _, ρ, S, y, S', h => by cases h
  | .tup gs, .int _, ρ, S, y, S', h => by cases h
  | .tup gs, .str _, ρ, S, y, S', h => by cases h
  | .tup gs, .ref _, ρ, S, y, S', h => by cases h
  | .tup gs, .new _, ρ, S, y, S', h => by cases h
theorem evalGs_noex : ∀ (gs : List G) (xs : List D) (ρ : AEnv) (S : Store) (y : Exn) (S' : Store), evalGs gs xs ρ S ≠ .ex y S'
  | [], [], ρ, S, y, S', h => by cases h
  | [], _ :: _, ρ, S, y, S', h => by cases h
  | _ :: _, [], ρ, S, y, S', h => by cases h
  | g :: gs, x :: xs, ρ, S, y, S', h => by
    have h' : (evalG g x ρ S).bind (fun ρ1 S1 => evalGs gs xs ρ1 S1) = .ex y S' := h
    cases q : evalG g x ρ S with
    | ok ρ1 S1 => rw [q] at h'; exact evalGs_noex gs xs ρ1 S1 y S' h'
    | ex z S1 => exact evalG_noex g x ρ S z S1 q
    | stuck => rw [q] at h'; cases h'
end
theorem evalGs_len : ∀ {gs : List G} {xs : List D} {ρ : AEnv} {S : Store} {ρ' : AEnv} {S' : Store}, evalGs gs xs ρ S = .ok ρ' S' → xs.length = gs.length
  | [], [], _, _, _, _, _ => rfl
  | [], _ :: _, _, _, _, _, h => by cases h
  | _ :: _, [], _, _, _, _, h => by cases h
  | g :: gs, x :: xs, ρ, S, ρ', S', h => by
    obtain ⟨ρ1, S1, _, h2⟩ := Rs.bind_ok (r := evalG g x ρ S) (f := fun ρ1 S1 => evalGs gs xs ρ1 S1) h
    exact congrArg Nat.succ (evalGs_len h2)
end
/-! ### statements -/
def OkS (C : Cxt) (H : Hp) (L : List Addr) (Z : Ends) (r : Fl × AEnv) (S' : Store) : Prop := match r.1 with
  | .nx => ∀ σ' H' L', Ext H L H' L' → SimS C H' L' S' → SimE C H' L' r.2 σ' → Z.nx σ' H'
  | .bk => ∀ σ' H' L', Ext H L H' L' → SimS C H' L' S' → SimE C H' L' r.2 σ' → Z.bk σ' H'
  | .ct => ∀ σ' H' L', Ext H L H' L' → SimS C H' L' S' → SimE C H' L' r.2 σ' → Z.ct σ' H'
  | .rt d => ∀ v H' L' F, Post C H L S' d v H' L' F → Z.rt v H'
theorem OkS.later {C : Cxt} {H H1 : Hp} {L L1 : List Addr} {Z : Ends} {r : Fl × AEnv} {S' : Store} (x : Ext H L H1 L1) (h : OkS C H L Z r S') : OkS C H1 L1 Z r S' := by
  obtain ⟨fl, ρ⟩ := r
  cases fl with
  | nx => exact fun σ' H' L' e => h σ' H' L' (x.trans e)
  | bk => exact fun σ' H' L' e => h σ' H' L' (x.trans e)
  | ct => exact fun σ' H' L' e => h σ' H' L' (x.trans e)
  | rt d => exact fun v H' L' F p => h v H' L' F (post_later x p)
def GoodS (C : Cxt) (R : XR) (E : XK) (t : TS) (f : AEnv → Store → Rs (Fl × AEnv)) : Prop :=
  ∀ (σ : L2.St) (H : Hp) (L : List Addr) (ρ : AEnv) (S : Store) (Z : Ends), SimS C H L S → SimE C H L ρ σ → (f ρ S).sat (OkS C H L Z) (ExW C R E H L) → t Z σ H
def ES (C : Cxt) (R : XR) (X : Cx) (E : XK) (s : Stmt) (f : AEnv → Store → Rs (Fl × AEnv)) : Prop := ∃ t, PS X s t ∧ GoodS C R E t f
def ESs (C : Cxt) (R : XR) (X : Cx) (E : XK) (s : List Stmt) (f : AEnv → Store → Rs (Fl × AEnv)) : Prop := ∃ t, PSs X s t ∧ GoodS C R E t f
section
variable {C : Cxt} {R : XR} {X : Cx} {E : XK} {pos p0 apos : Pos} {a b c e o : Expr} {es : List Expr} {fo fa fb fc : AEnv → Store → Rs D} {f1 f2 : AEnv → Store → Rs (Fl × AEnv)} {st : Stmt} {rest sa sb : List Stmt}
theorem ess_nil : ESs C R X E [] (fun ρ S => .ok (.nx, ρ) S) := ⟨tNext, pss_nil, fun σ H L ρ S Z s e h => h σ H L (Ext.refl _ _) s e⟩
theorem ess_cons (h1 : ES C R X E st f1) (h2 : ESs C R X E rest f2) : ESs C R X E (st :: rest) (fun ρ S => (f1 ρ S).bind fun q S1 => match q.1 with
    | .nx => f2 q.2 S1
    | _ => .ok q S1) := by
  obtain ⟨t, p, g⟩ := h1
  obtain ⟨u, q, k⟩ := h2
  refine ⟨tSeq t u, pss_cons p q, fun σ H L ρ S Z s e h => ?_⟩
  have h' := sat_bind h
  refine g σ H L ρ S { Z with nx := u Z } s e (sat_mono h' (fun r S1 z => ?_) fun _ _ z => z)
  obtain ⟨fl, ρ1⟩ := r
  cases fl with
  | nx => exact fun σ1 H1 L1 x1 s1 e1 => k σ1 H1 L1 ρ1 S1 Z s1 e1 (sat_mono z (fun _ _ y => y.later x1) fun _ _ y => y.later x1)
  | bk => exact z
  | ct => exact z
  | rt d => exact z
theorem es_expr (hs : ∀ l, swapsWith a none l X.env = pure false) (ha : EE C R X E a fa) : ES C R X E (.Expr a pos) (fun ρ S => (fa ρ S).bind fun _ S1 => .ok (.nx, ρ) S1) := by
  obtain ⟨ta, pa, ga⟩ := ha
  refine ⟨_, ps_expr pa (hs _), fun σ H L ρ S Z s e h => ?_⟩
  exact ga.first s e (fun _ _ z => z) h fun x S1 v H1 L1 F1 p1 e1 h1 => h1 σ H1 L1 p1.ext p1.sim e1
theorem es_ret (ha : EE C R X E a fa) : ES C R X E (.Return (some a) pos) (fun ρ S => (fa ρ S).bind fun x S1 => .ok (.rt x, ρ) S1) := by
  obtain ⟨ta, pa, ga⟩ := ha
  refine ⟨_, ps_ret pa, fun σ H L ρ S Z s e h => ?_⟩
  exact ga.first s e (fun _ _ z => z) h fun x S1 v H1 L1 F1 p1 e1 h1 => h1 v H1 L1 F1 p1
theorem es_retN : ES C R X E (.Return none pos) (fun ρ S => .ok (.rt .non, ρ) S) :=
  ⟨_, ps_retN, fun σ H L ρ S Z s e h => h .non H L [] ⟨Ext.refl _ _, s, .non, Fr.nil _ _⟩⟩
theorem es_pass : ES C R X E (.Pass pos) (fun ρ S => .ok (.nx, ρ) S) := ⟨_, ps_pass, fun σ H L ρ S Z s e h => h σ H L (Ext.refl _ _) s e⟩
theorem es_brk : ES C R X E (.Break pos) (fun ρ S => .ok (.bk, ρ) S) := ⟨_, ps_break, fun σ H L ρ S Z s e h => h σ H L (Ext.refl _ _) s e⟩
theorem es_cont : ES C R X E (.Continue pos) (fun ρ S => .ok (.ct, ρ) S) := ⟨_, ps_continue, fun σ H L ρ S Z s e h => h σ H L (Ext.refl _ _) s e⟩
theorem es_never : ES C R X E st (fun _ _ => .stuck) := ⟨_, ps_never, fun σ H L ρ S Z s e h => h.elim⟩
theorem es_asg {g : G} {sl : List Nat} (hs : swapsWithSole [b] a pos.line X.env = pure false) (hw : swappedStores [b] a X.env = pure none) (h1 : (assignEach [b] X.env).map (·.2) = [assign b X.env]) (ha : EE C R X E a fa) (hg : EG C X b sl (evalG g)) :
    ES C R X E (.Assign [b] a pos) (fun ρ S => (fa ρ S).bind fun x S1 => (evalG g x ρ S1).bind fun ρ1 S2 => .ok (.nx, ρ1) S2) := by
  obtain ⟨ta, pa, ga⟩ := ha
  obtain ⟨tg, pg, gg⟩ := hg
  refine ⟨_, ps_asg pa pg hs hw h1, fun σ H L ρ S Z s e h => ?_⟩
  refine ga.first s e (fun _ _ z => z) h fun x S1 v H1 L1 F1 p1 e1 h2 => ?_
  have h3 := sat_bind h2
  refine gg H1 L1 S1 ρ σ x v F1 _ p1.sim e1 p1.rep p1.fr.nd p1.fr.out ?_
  cases hq : evalG g x ρ S1 with
  | ok ρ1 S2 =>
    rw [hq] at h3
    exact fun σ' M s' e' m w => h3 σ' H1 (L1 ++ M) (p1.ext.grow p1.fr m) s' e'
  | ex y S2 => exact absurd hq (evalG_noex _ _ _ _ _ _)
  | stuck => rw [hq] at h3; exact h3.elim
/-! ### if -/
theorem es_ite {fc : AEnv → Store → Rs D} (hc : ET C R X E c fc) (ha : ESs C R X E sa f1) (hb : ESs C R X E sb f2) : ES C R X E (.If c sa sb pos) (fun ρ S => (fc ρ S).bind fun x S1 => match truD x S1 with
    | some true => f1 ρ S1
    | some false => f2 ρ S1
    | none => .stuck) := by
  obtain ⟨tc, pc, gc⟩ := hc
  obtain ⟨ta, pa, ga⟩ := ha
  obtain ⟨tb, pb, gb⟩ := hb
  refine ⟨_, ps_if pc pa pb, fun σ H L ρ S Z s e h => ?_⟩
  have h2 : ((truF fc ρ S).bind fun k S1 => if k = true then f1 ρ S1 else f2 ρ S1).sat (OkS C H L Z) (ExW C R E H L) := by
    dsimp only at h
    unfold truF
    cases hf : fc ρ S with
    | ok x S1 =>
      simp only [hf, Rs.bind] at h ⊢
      cases hk : truD x S1 with
      | none => simp only [hk] at h; exact h.elim
      | some k => simp only [hk] at h; cases k <;> simpa [Rs.of, Rs.bind] using h
    | ex x S1 => simp only [hf, Rs.bind] at h ⊢; exact h
    | stuck => simp only [hf, Rs.bind] at h; exact h.elim
  refine gc.first s e (fun _ _ z => z) h2 fun k S1 H1 L1 x1 s1 e1 h1 => ?_
  cases k with
  | true =>
    rw [if_pos rfl] at h1 ⊢
    exact ga σ H1 L1 ρ S1 Z s1 e1 (sat_mono h1 (fun _ _ z => z.later x1) fun _ _ z => z.later x1)
  | false =>
    rw [if_neg Bool.false_ne_true] at h1 ⊢
    exact gb σ H1 L1 ρ S1 Z s1 e1 (sat_mono h1 (fun _ _ z => z.later x1) fun _ _ z => z.later x1)
/-! ### stores into objects -/
theorem fs_put {H : Hp} {L : List Addr} {f : Nat} {d : D} {v : V} (rv : Rep C H L d v []) (inj : ∀ g, C.sym g = C.sym f → g = f) : ∀ {fs : List (Nat × D)} {vs : List (Str × V)}, RepFs C H L fs vs [] → RepFs C H L (putA f d fs) (putF (C.sym f) v vs) [] := by
  intro fs
  induction fs with
  | nil => intro vs r; cases r; exact .cons (F := []) (G := []) rv .nil
  | cons p r ih =>
    intro vs h
    obtain ⟨g, x⟩ := p
    generalize hF : ([] : List Addr) = F0 at h
    cases h with
    | cons rx rs =>
      rename_i w F1 s G1
      have hh := List.append_eq_nil_iff.mp hF.symm
      obtain ⟨rfl, rfl⟩ := hh
      by_cases q : g = f
      · subst q
        show RepFs C H L (if g = g then (g, d) :: r else _) (if C.sym g = C.sym g then (C.sym g, v) :: s else _) []
        rw [if_pos rfl, if_pos rfl]
        exact .cons (F := []) (G := []) rv rs
      · have ne : ¬ C.sym g = C.sym f := fun e => q (inj g e)
        show RepFs C H L (if g = f then (g, d) :: r else (g, x) :: putA f d r) (if C.sym g = C.sym f then (C.sym g, v) :: s else (C.sym g, w) :: putF (C.sym f) v s) []
        rw [if_neg q, if_neg ne]
        exact .cons (F := []) (G := []) rx (ih rs)
theorem RepFs.length {H : Hp} {L : List Addr} : ∀ {fs : List (Nat × D)} {vs : List (Str × V)} {F : List Addr}, RepFs C H L fs vs F → fs.length = vs.length
  | _, _, _, .nil => rfl
  | _, _, _, .cons _ s => congrArg Nat.succ s.length
theorem es_attr {f : Nat} {nm : Str} {p2 : Pos} (hK : X.K = C.K) (hcl : ∀ c, c < C.nc → Cls C.K (C.CA c)) (hna : ∀ c, c < C.nc → NoAttr C.K (C.CA c) nm) (hsym : C.sym f = nm) (inj : ∀ g, C.sym g = C.sym f → g = f) (hs : swapsWith a (some (.Attribute o nm p2)) pos.line X.env = pure false) (ho : EE C R X E o fo) (ha : EE C R X E a fa) :
    ES C R X E (.Assign [.Attribute o nm p2] a pos) (fun ρ S => (fa ρ S).bind fun y S1 => (fo ρ S1).bind fun x S2 => (Rs.of (setAttr x f (mat y S2).1 (mat y S2).2) S2).bind fun S3 _ => .ok (.nx, ρ) S3) := by
  subst hsym
  obtain ⟨to, po, go⟩ := ho
  obtain ⟨ta, pa, ga⟩ := ha
  refine ⟨_, ps_fld po pa hs, fun σ H L ρ S Z s e h => ?_⟩
  refine ga.first s e (fun _ _ z => z) h fun y S1 w H1 L1 F1 p1 e1 h1 => ?_
  refine go.first p1.sim e1 (fun _ _ z => z.later p1.ext) h1 fun x S2 v H2 L2 F2 p2 e2 h2 => ?_
  have h3 := sat_bind h2
  obtain ⟨S3, hS3, q⟩ := sat_of h3
  cases x with
  | ref n =>
    obtain ⟨_, l, rfl, hl, _⟩ := p2.sim.at p2.rep
    obtain ⟨x12, r1, f12⟩ := p1.seq p2
    have py : Post C H L S2 y w H2 L2 F1 := ⟨x12, p2.sim, r1, f12.sub (List.sublist_append_left _ _)⟩
    obtain ⟨M, p3, _⟩ := py.mat
    have hl3 : (L2 ++ M)[n]? = some l := by
      rw [List.getElem?_append_left (List.getElem?_eq_some_iff.mp hl).1]; exact hl
    unfold setAttr at hS3
    cases ho : (mat y S2).2[n]? with
    | none => simp only [ho] at hS3; cases hS3
    | some oo =>
      simp only [ho] at hS3
      cases oo with
      | ins c fs =>
        simp only at hS3
        by_cases hlen : fs.length < 1000
        · rw [if_pos hlen] at hS3
          cases hS3
          obtain ⟨dx, vs, hH, rf, hlt⟩ := (p3.sim.cell n _ l ho hl3).ins
          have ex : Ext H2 (L2 ++ M) (upd H2 l (.ins (C.CA c) dx (putF (C.sym f) w vs))) (L2 ++ M) := Ext.write (List.mem_of_getElem? hl3) hH rfl
          refine ⟨l, C.CA c, dx, vs, rfl, hH, hK ▸ hcl c hlt, hK ▸ hna c hlt, by rw [← rf.length]; exact hlen, ?_⟩
          exact q σ _ (L2 ++ M) (p3.ext.trans ex) (p3.sim.write hl3 hH rfl (.ins hlt (fs_put p3.rep inj rf)) (fun _ z => nomatch z)) (e2.grow.ext ex)
        · rw [if_neg hlen] at hS3; cases hS3
      | _ => cases hS3
  | _ => cases hS3
theorem Reps.set {H : Hp} {L : List Addr} {d : D} {v : V} (rv : Rep C H L d v []) : ∀ {xs : List D} {vs : List V} (j : Nat), Reps C H L xs vs [] → Reps C H L (xs.set j d) (vs.set j v) [] := by
  intro xs
  induction xs with
  | nil => intro vs j r; cases r; exact .nil
  | cons x xs ih =>
    intro vs j r
    generalize hF : ([] : List Addr) = F0 at r
    cases r with
    | cons rx rs =>
      obtain ⟨rfl, rfl⟩ := List.append_eq_nil_iff.mp hF.symm
      cases j with
      | zero => exact .cons (F := []) (G := []) rv rs
      | succ j => exact .cons (F := []) (G := []) rx (ih j rs)
theorem assign_sub {o i : Expr} {p : Pos} {env : Env} (h : ∀ l u s p, i ≠ .Slice l u s p) (v : Value) : assign (.Subscript o i p) env v = (do
      let ov ← holding [v] (eval o env)
      let iv ← holding [v, ov] (eval i env)
      standAt p
      holding [v, ov, iv] (setItem ov iv v)
      release [v, ov, iv] []) := by
  cases i <;> first
    | rfl
    | exact absurd rfl (h _ _ _ _)
theorem es_sub {i : Expr} {fi : AEnv → Store → Rs D} {p2 : Pos} (hK : X.K = C.K) (hsl : ∀ l u s p, i ≠ .Slice l u s p) (hs : swapsWithSole [.Subscript o i p2] a pos.line X.env = pure false) (hw : swappedStores [.Subscript o i p2] a X.env = pure none) (ho : EE C R X E o fo) (hi : EE C R X E i fi) (ha : EE C R X E a fa) :
    ES C R X E (.Assign [.Subscript o i p2] a pos) (fun ρ S => (fa ρ S).bind fun y S1 => (fo ρ S1).bind fun x S2 => (fi ρ S2).bind fun k S3 => (Rs.of (setSub x k (mat y S3).1 (mat y S3).2) S3).bind fun S4 _ => .ok (.nx, ρ) S4) := by
  obtain ⟨to, po, go⟩ := ho
  obtain ⟨ta, pa, ga⟩ := ha
  obtain ⟨ti, pi, gi⟩ := hi
  refine ⟨_, ps_asg pa (pg_sub po pi set_list (assign_sub hsl)) hs hw (by rfl), fun σ H L ρ S Z s e h => ?_⟩
  refine ga.first s e (fun _ _ z => z) h fun y S1 w H1 L1 F1 p1 e1 h1 => ?_
  refine go.first p1.sim e1 (fun _ _ z => z.later p1.ext) h1 fun x S2 v H2 L2 F2 p2 e2 h2 => ?_
  obtain ⟨x12, r1, f12⟩ := p1.seq p2
  refine gi.first p2.sim e2 (fun _ _ z => z.later x12) h2 fun k S3 u H3 L3 F3 p3 e3 h3 => ?_
  have h4 := sat_bind h3
  obtain ⟨S4, hS4, q⟩ := sat_of h4
  cases x with
  | ref n =>
    cases k with
    | int k =>
      obtain ⟨rfl, _⟩ := p3.rep.int_inv
      have r2 := p2.rep.car (p3.ext.car p2.fr.out)
      obtain ⟨_, l, rfl, hl, _⟩ := p3.sim.at r2
      have o1 : ∀ a ∈ F1, a ∉ L2 := fun a ha => f12.out a (List.mem_append_left _ ha)
      have py : Post C H L S3 y w H3 L3 F1 := ⟨x12.trans p3.ext, p3.sim, r1.car (p3.ext.car o1), (f12.sub (List.sublist_append_left _ _)).over r1.trk p3.ext⟩
      obtain ⟨M, p4, _⟩ := py.mat
      have hl4 : (L3 ++ M)[n]? = some l := by
        rw [List.getElem?_append_left (List.getElem?_eq_some_iff.mp hl).1]; exact hl
      unfold setSub at hS4
      cases hoo : (mat y S3).2[n]? with
      | none => simp only [hoo] at hS4; cases hS4
      | some oo =>
        simp only [hoo] at hS4
        cases oo with
        | lst xs =>
          simp only at hS4
          cases hj : ixN xs.length k with
          | none => rw [hj] at hS4; cases hS4
          | some j =>
            rw [hj] at hS4
            cases hS4
            obtain ⟨vs, hH, rf⟩ := (p4.sim.cell n _ l hoo hl4).lst
            have ex : Ext H3 (L3 ++ M) (upd H3 l (.lst (vs.set j w))) (L3 ++ M) := Ext.write (List.mem_of_getElem? hl4) hH rfl
            refine ⟨l, vs, k, j, rfl, rfl, hH, by rw [← rf.length]; exact hj, ?_⟩
            exact q σ _ (L3 ++ M) (p4.ext.trans ex) (p4.sim.write hl4 hH rfl (.lst (Reps.set p4.rep j rf)) (fun _ z => nomatch z)) (e3.grow.ext ex)
        | _ => cases hS4
    | _ => cases hS4
  | _ => cases hS4
end
end Nv
/-! Nv: names put in at once. -/
namespace Nv
open PySem PySem.Spec PyProof.Rows L2
/-! ### which stores are swapped -/
def swOpt (sc : Scope) (ts vs : List Expr) : Option (List Str) :=
  if (!(ts.length == 2 || ts.length == 3) || vs.length != ts.length) = true then none else
  if (vs.any fun e => match e with
    | .Starred .. => true
    | _ => false) = true then none else
  let line := (ts.head?.map (·.pos.line)).getD 0
  let names := ts.filterMap fun e => match e with
    | .Name id pos => if sc.names.lookup id == some .local && pos.line == line then some id else none
    | _ => none
  if (names.length != ts.length || names.eraseDups.length != names.length) = true then none else
  if (vs.all (foldedForSure 8)) = true then none else some names
def swBad (vs : List Expr) : Bool := vs.all (constantsAlone 8) && !(vs.all (foldedForSure 8))
theorem swapped_eq {sc : Scope} {ts vs : List Expr} {k k2 : Nat} {p p2 : Pos} {env : Env} (hs : env.scope = sc) (hk : sc.kind = .function) (hb : swBad vs = false) : swappedStores [.Tuple ts k p] (.Tuple vs k2 p2) env = pure (swOpt sc ts vs) := by
  have bk : env.blockKind = .function := by
    unfold Env.blockKind
    rw [hs, hk]; rfl
  have nb : (env.blockKind != .function) = false := by rw [bk]; rfl
  unfold swBad at hb
  subst hs
  unfold swappedStores swOpt
  simp only [nb, Bool.or_false, Env.kindOf]
  have hc : vs.all (foldedForSure 8) = false → vs.all (constantsAlone 8) = false := fun h => by
    rw [h] at hb
    simpa using hb
  have ip : ∀ (c : Bool) (a b : Option (List Str)), (if c = true then (pure a : Sem (Option (List Str))) else pure b) = pure (if c = true then a else b) := by
    intro c a b; cases c <;> rfl
  cases hf : vs.all (foldedForSure 8) with
  | true =>
    simp only [if_true, ip]
    try rfl
  | false =>
    simp only [hc hf, Bool.false_eq_true, if_false, ip]
    try rfl
section
variable {C : Cxt} {R : XR} {X : Cx} {E : XK} {pos : Pos} {es : List Expr} {fs : AEnv → Store → Rs (List D)}
theorem Reps.inv0 {H : Hp} {L : List Addr} {ys : List D} {v : V} {vs : List V} (r : Reps C H L ys (v :: vs) []) : ∃ y ys', ys = y :: ys' ∧ Rep C H L y v [] ∧ Reps C H L ys' vs [] := by
  obtain ⟨F, hF⟩ : ∃ F : List Addr, F = [] := ⟨[], rfl⟩
  rw [← hF] at r
  cases r with
  | cons a b =>
    have := List.append_eq_nil_iff.mp hF
    rw [this.1] at a
    rw [this.2] at b
    exact ⟨_, _, rfl, a, b⟩
theorem Reps.nil0 {H : Hp} {L : List Addr} {ys : List D} {F : List Addr} (r : Reps C H L ys [] F) : ys = [] := by cases r; rfl
theorem es_par2 {i j : Nat} {x y : Str} {a b : Expr} {px py pt pt2 : Pos} {kt k2 : Nat} (hc : X.calm = true) (hN : X.N.Nodup) (hi : X.N[i]? = some x) (hj : X.N[j]? = some y) (hij : i ≠ j)
    (hx : X.env.scope.names.lookup x = some .local) (hy : X.env.scope.names.lookup y = some .local) (ha : EA C R X E [a, b] fs) (hl : ∀ ρ S xs S1, fs ρ S = .ok xs S1 → xs.length = 2)
    (hw : swappedStores [.Tuple [.Name x px, .Name y py] kt pt] (.Tuple [a, b] k2 pt2) X.env = pure (some [x, y])) :
    ES C R X E (.Assign [.Tuple [.Name x px, .Name y py] kt pt] (.Tuple [a, b] k2 pt2) pos) (fun ρ S => (fs ρ S).bind fun xs S1 => .ok (.nx, parD [i, j] (mats xs S1).1 ρ) (mats xs S1).2) := by
  obtain ⟨ta, pa, ga⟩ := ha
  refine ⟨_, ps_par hc hN hi hj hij hx hy pa hw, fun σ H L ρ S Z s e h => ?_⟩
  refine ga σ H L ρ S _ s e ?_
  dsimp only at h
  cases hq : fs ρ S with
  | stuck => rw [hq] at h; exact h.elim
  | ex y S1 => rw [hq] at h; exact h
  | ok xs S1 =>
    rw [hq] at h
    have h : OkS C H L Z (.nx, parD [i, j] (mats xs S1).1 ρ) (mats xs S1).2 := h
    have hlen := hl _ _ _ _ hq
    intro vs H1 L1 F p1
    obtain ⟨M, s', r', m⟩ := mats_ok xs p1.sim p1.rep p1.fr.nd p1.fr.out
    have ex : Ext H L H1 (L1 ++ M) := p1.ext.grow p1.fr m
    have hv : vs.length = 2 := by rw [← p1.rep.length]; exact hlen
    generalize (mats xs S1).1 = ys at r' h
    match vs, hv, r' with
    | [v1, v2], _, r' =>
      obtain ⟨y1, ys1, rfl, r1, r'⟩ := r'.inv0
      obtain ⟨y2, ys2, rfl, r2, r'⟩ := r'.inv0
      exact ⟨v1, v2, rfl, h _ H1 (L1 ++ M) ex s' (((e.ext p1.ext).grow.set r1).set r2)⟩
theorem es_par3 {i j l : Nat} {x y z : Str} {a b c : Expr} {px py pz pt pt2 : Pos} {kt k2 : Nat} (hc : X.calm = true) (hN : X.N.Nodup) (hi : X.N[i]? = some x) (hj : X.N[j]? = some y) (hk : X.N[l]? = some z) (hij : i ≠ j) (hil : i ≠ l) (hjl : j ≠ l)
    (hx : X.env.scope.names.lookup x = some .local) (hy : X.env.scope.names.lookup y = some .local) (hz : X.env.scope.names.lookup z = some .local) (ha : EA C R X E [a, b, c] fs) (hl : ∀ ρ S xs S1, fs ρ S = .ok xs S1 → xs.length = 3)
    (hw : swappedStores [.Tuple [.Name x px, .Name y py, .Name z pz] kt pt] (.Tuple [a, b, c] k2 pt2) X.env = pure (some [x, y, z])) :
    ES C R X E (.Assign [.Tuple [.Name x px, .Name y py, .Name z pz] kt pt] (.Tuple [a, b, c] k2 pt2) pos) (fun ρ S => (fs ρ S).bind fun xs S1 => .ok (.nx, parD [i, j, l] (mats xs S1).1 ρ) (mats xs S1).2) := by
  obtain ⟨ta, pa, ga⟩ := ha
  refine ⟨_, ps_par3 hc hN hi hj hk hij hil hjl hx hy hz pa hw, fun σ H L ρ S Z s e h => ?_⟩
  refine ga σ H L ρ S _ s e ?_
  dsimp only at h
  cases hq : fs ρ S with
  | stuck => rw [hq] at h; exact h.elim
  | ex y S1 => rw [hq] at h; exact h
  | ok xs S1 =>
    rw [hq] at h
    have h : OkS C H L Z (.nx, parD [i, j, l] (mats xs S1).1 ρ) (mats xs S1).2 := h
    have hlen := hl _ _ _ _ hq
    intro vs H1 L1 F p1
    obtain ⟨M, s', r', m⟩ := mats_ok xs p1.sim p1.rep p1.fr.nd p1.fr.out
    have ex : Ext H L H1 (L1 ++ M) := p1.ext.grow p1.fr m
    have hv : vs.length = 3 := by rw [← p1.rep.length]; exact hlen
    generalize (mats xs S1).1 = ys at r' h
    match vs, hv, r' with
    | [v1, v2, v3], _, r' =>
      obtain ⟨y1, ys1, rfl, r1, r'⟩ := r'.inv0
      obtain ⟨y2, ys2, rfl, r2, r'⟩ := r'.inv0
      obtain ⟨y3, ys3, rfl, r3, r'⟩ := r'.inv0
      exact ⟨v1, v2, v3, rfl, h _ H1 (L1 ++ M) ex s' ((((e.ext p1.ext).grow.set r1).set r2).set r3)⟩
end
end Nv
/-! Nv: cells dropped at a turn's end, at a def's end. -/
namespace Nv
open PySem PySem.Spec PyProof.Rows L2
mutual
theorem sameD_eq : ∀ (a b : D), sameD a b = true → a = b
  | .non, b, h => by cases b <;> first | rfl | cases h
  | .bl x, b, h => by cases b <;> first | (cases h; done) | (simp [sameD] at h; rw [h])
  | .int x, b, h => by cases b <;> first | (cases h; done) | (simp [sameD] at h; rw [h])
  | .str x, b, h => by cases b <;> first | (cases h; done) | (simp [sameD] at h; rw [h])
  | .ref x, b, h => by cases b <;> first | (cases h; done) | (simp [sameD] at h; rw [h])
  | .tup x, b, h => by cases b <;> first | (cases h; done) | rw [sameDs_eq x _ h]
  | .new x, b, h => by cases b <;> first | (cases h; done) | rw [sameO_eq x _ h]
theorem sameDs_eq : ∀ (a b : List D), sameDs a b = true → a = b
  | [], b, h => by cases b <;> first | rfl | cases h
  | x :: xs, b, h => by
    cases b with
    | nil => cases h
    | cons y ys =>
      have h' : (sameD x y && sameDs xs ys) = true := h
      rw [Bool.and_eq_true] at h'
      rw [sameD_eq x y h'.1, sameDs_eq xs ys h'.2]
theorem sameO_eq : ∀ (a b : O), sameO a b = true → a = b
  | .lst x, b, h => by cases b <;> first | (cases h; done) | rw [sameDs_eq x _ h]
  | .frz x, b, h => by cases b <;> first | (cases h; done) | rw [sameDs_eq x _ h]
  | .dct x, b, h => by cases b <;> first | (cases h; done) | rw [sameKs_eq x _ h]
  | .ins c x, b, h => by
    cases b with
    | ins e y =>
      have h' : (decide (c = e) && sameFs x y) = true := h
      rw [Bool.and_eq_true] at h'
      rw [of_decide_eq_true h'.1, sameFs_eq x y h'.2]
    | _ => cases h
theorem sameKs_eq : ∀ (a b : List (D × D)), sameKs a b = true → a = b
  | [], b, h => by cases b <;> first | rfl | cases h
  | (k, x) :: xs, b, h => by
    cases b with
    | nil => cases h
    | cons y ys =>
      obtain ⟨l, y⟩ := y
      have h' : (sameD k l && sameD x y && sameKs xs ys) = true := h
      rw [Bool.and_eq_true, Bool.and_eq_true] at h'
      rw [sameD_eq k l h'.1.1, sameD_eq x y h'.1.2, sameKs_eq xs ys h'.2]
theorem sameFs_eq : ∀ (a b : List (Nat × D)), sameFs a b = true → a = b
  | [], b, h => by cases b <;> first | rfl | cases h
  | (k, x) :: xs, b, h => by
    cases b with
    | nil => cases h
    | cons y ys =>
      obtain ⟨l, y⟩ := y
      have h' : (decide (k = l) && sameD x y && sameFs xs ys) = true := h
      rw [Bool.and_eq_true, Bool.and_eq_true] at h'
      rw [of_decide_eq_true h'.1.1, sameD_eq x y h'.1.2, sameFs_eq xs ys h'.2]
end
mutual
theorem sameD_refl : ∀ (a : D), sameD a a = true
  | .non => rfl
  | .bl x => by simp [sameD]
  | .int x => by simp [sameD]
  | .str x => by simp [sameD]
  | .ref x => by simp [sameD]
  | .tup x => sameDs_refl x
  | .new x => sameO_refl x
theorem sameDs_refl : ∀ (a : List D), sameDs a a = true
  | [] => rfl
  | x :: xs => by show (sameD x x && sameDs xs xs) = true; rw [sameD_refl x, sameDs_refl xs]; rfl
theorem sameO_refl : ∀ (a : O), sameO a a = true
  | .lst x => sameDs_refl x
  | .frz x => sameDs_refl x
  | .dct x => sameKs_refl x
  | .ins c x => by show (decide (c = c) && sameFs x x) = true; rw [sameFs_refl x]; simp
theorem sameKs_refl : ∀ (a : List (D × D)), sameKs a a = true
  | [] => rfl
  | (k, x) :: xs => by show (sameD k k && sameD x x && sameKs xs xs) = true; rw [sameD_refl k, sameD_refl x, sameKs_refl xs]; rfl
theorem sameFs_refl : ∀ (a : List (Nat × D)), sameFs a a = true
  | [] => rfl
  | (k, x) :: xs => by show (decide (k = k) && sameD x x && sameFs xs xs) = true; rw [sameD_refl x, sameFs_refl xs]; simp
end
section
variable {C : Cxt} {H : Hp}
theorem lt_of_get {L : List Addr} {n : Nat} {a : Addr} (h : L[n]? = some a) : n < L.length := (List.getElem?_eq_some_iff.mp h).1
theorem RepK.low {k : D} {q : Key} {n : Nat} (h : RepK k q) : lowD n k = true := by cases h <;> rfl
mutual
theorem Rep.low {L : List Addr} : ∀ {d : D} {v : V} {F : List Addr}, Rep C H L d v F → lowD L.length d = true
  | _, _, _, .non => rfl
  | _, _, _, .bl _ => rfl
  | _, _, _, .int _ => rfl
  | _, _, _, .str _ => rfl
  | _, _, _, .tup _ r => Reps.low r
  | _, _, _, .ref h => decide_eq_true (lt_of_get h)
  | _, _, _, .new _ r => RepO.low r
theorem Reps.low {L : List Addr} : ∀ {d : List D} {v : List V} {F : List Addr}, Reps C H L d v F → lowDs L.length d = true
  | _, _, _, .nil => rfl
  | _, _, _, .cons (x := x) (xs := xs) r s => by show (lowD _ x && lowDs _ xs) = true; rw [Rep.low r, Reps.low s]; rfl
theorem RepKs.low {L : List Addr} : ∀ {d : List (D × D)} {v : List (Key × V)} {F : List Addr}, RepKs C H L d v F → lowKs L.length d = true
  | _, _, _, .nil => rfl
  | _, _, _, .cons (k := k) (x := x) (r := xs) q r s => by show (lowD _ k && lowD _ x && lowKs _ xs) = true; rw [q.low, Rep.low r, RepKs.low s]; rfl
theorem RepFs.low {L : List Addr} : ∀ {d : List (Nat × D)} {v : List (Str × V)} {F : List Addr}, RepFs C H L d v F → lowFs L.length d = true
  | _, _, _, .nil => rfl
  | _, _, _, .cons (x := x) (r := xs) r s => by show (lowD _ x && lowFs _ xs) = true; rw [Rep.low r, RepFs.low s]; rfl
theorem RepO.low {L : List Addr} : ∀ {d : O} {v : HO} {F : List Addr}, RepO C H L d v F → lowO L.length d = true
  | _, _, _, .lst r => Reps.low r
  | _, _, _, .dct r => RepKs.low r
  | _, _, _, .ins _ r => RepFs.low r
end
mutual
theorem Rep.shrink {L N : List Addr} : ∀ {d : D} {v : V} {F : List Addr}, Rep C H (L ++ N) d v F → lowD L.length d = true → Rep C H L d v F
  | _, _, _, .non, _ => .non
  | _, _, _, .bl b, _ => .bl b
  | _, _, _, .int i, _ => .int i
  | _, _, _, .str s, _ => .str s
  | _, _, _, .tup h r, q => .tup h (Reps.shrink r q)
  | _, _, _, .ref h, q => .ref (by rw [List.getElem?_append_left (of_decide_eq_true q)] at h; exact h)
  | _, _, _, .new h r, q => .new h (RepO.shrink r q)
theorem Reps.shrink {L N : List Addr} : ∀ {d : List D} {v : List V} {F : List Addr}, Reps C H (L ++ N) d v F → lowDs L.length d = true → Reps C H L d v F
  | _, _, _, .nil, _ => .nil
  | _, _, _, .cons (x := x) (xs := xs) r s, q => by
    have q' : (lowD L.length x && lowDs L.length xs) = true := q
    rw [Bool.and_eq_true] at q'
    exact .cons (Rep.shrink r q'.1) (Reps.shrink s q'.2)
theorem RepKs.shrink {L N : List Addr} : ∀ {d : List (D × D)} {v : List (Key × V)} {F : List Addr}, RepKs C H (L ++ N) d v F → lowKs L.length d = true → RepKs C H L d v F
  | _, _, _, .nil, _ => .nil
  | _, _, _, .cons (k := k) (x := x) (r := xs) kk r s, q => by
    have q' : (lowD L.length k && lowD L.length x && lowKs L.length xs) = true := q
    rw [Bool.and_eq_true, Bool.and_eq_true] at q'
    exact .cons kk (Rep.shrink r q'.1.2) (RepKs.shrink s q'.2)
theorem RepFs.shrink {L N : List Addr} : ∀ {d : List (Nat × D)} {v : List (Str × V)} {F : List Addr}, RepFs C H (L ++ N) d v F → lowFs L.length d = true → RepFs C H L d v F
  | _, _, _, .nil, _ => .nil
  | _, _, _, .cons (x := x) (r := xs) r s, q => by
    have q' : (lowD L.length x && lowFs L.length xs) = true := q
    rw [Bool.and_eq_true] at q'
    exact .cons (Rep.shrink r q'.1) (RepFs.shrink s q'.2)
theorem RepO.shrink {L N : List Addr} : ∀ {d : O} {v : HO} {F : List Addr}, RepO C H (L ++ N) d v F → lowO L.length d = true → RepO C H L d v F
  | _, _, _, .lst r, q => .lst (Reps.shrink r q)
  | _, _, _, .dct r, q => .dct (RepKs.shrink r q)
  | _, _, _, .ins c r, q => .ins c (RepFs.shrink r q)
end
theorem Cell.low {L : List Addr} {a : Addr} {o : O} (c : Cell C H L a o) : lowO L.length o = true := by
  cases o with
  | frz xs => obtain ⟨ob, vs, e1, e2⟩ := c; exact e2.low
  | lst xs => obtain ⟨ho, e1, e2⟩ := c; exact e2.low
  | dct xs => obtain ⟨ho, e1, e2⟩ := c; exact e2.low
  | ins c' xs => obtain ⟨ho, e1, e2⟩ := c; exact e2.low
theorem Cell.shrink {L N : List Addr} {a : Addr} {o : O} (c : Cell C H (L ++ N) a o) (q : lowO L.length o = true) : Cell C H L a o := by
  cases o with
  | frz xs => obtain ⟨ob, vs, e1, e2⟩ := c; exact ⟨ob, vs, e1, e2.shrink q⟩
  | lst xs => obtain ⟨ho, e1, e2⟩ := c; exact ⟨ho, e1, e2.shrink q⟩
  | dct xs => obtain ⟨ho, e1, e2⟩ := c; exact ⟨ho, e1, e2.shrink q⟩
  | ins c' xs => obtain ⟨ho, e1, e2⟩ := c; exact ⟨ho, e1, e2.shrink q⟩
theorem truncOk_at {n : Nat} : ∀ {S S' : Store} {k : Nat} {o p : O}, truncOk n S S' = true → S[k]? = some o → S'[k]? = some p → o = p ∨ lowO n p = true
  | [], _, k, o, p, _, h, _ => by simp at h
  | _ :: _, [], k, o, p, h, _, _ => by cases h
  | a :: S, b :: S', k, o, p, h, h1, h2 => by
    have h' : ((sameO a b || lowO n b) && truncOk n S S') = true := h
    rw [Bool.and_eq_true, Bool.or_eq_true] at h'
    cases k with
    | zero =>
      simp at h1 h2
      subst h1 h2
      exact h'.1.imp (sameO_eq _ _) id
    | succ k => exact truncOk_at h'.2 (by simpa using h1) (by simpa using h2)
theorem truncOk_len {n : Nat} : ∀ {S S' : Store}, truncOk n S S' = true → S.length ≤ S'.length
  | [], _, _ => Nat.zero_le _
  | _ :: _, [], h => by cases h
  | a :: S, b :: S', h => by
    have h' : ((sameO a b || lowO n b) && truncOk n S S') = true := h
    rw [Bool.and_eq_true] at h'
    exact Nat.succ_le_succ (truncOk_len h'.2)
/-- the cells made since S are dropped -/
theorem trunc_ok {H1 : Hp} {L L' : List Addr} {S S' T : Store} (s1 : SimS C H1 L S) (e : ∃ N, L' = L ++ N) (s2 : SimS C H L' S') (h : trunc S S' = some T) : SimS C H L T ∧ T.length = S.length := by
  unfold trunc at h
  by_cases q : truncOk S.length S S' = true
  · rw [if_pos q] at h
    cases h
    obtain ⟨N, en⟩ := e
    have hl : (S'.take S.length).length = S.length := by rw [List.length_take]; have := truncOk_len q; omega
    refine ⟨⟨by rw [hl, s1.len], s1.nd, fun n p a h1 h2 => ?_⟩, hl⟩
    have hn : n < S.length := by rw [← hl]; exact (List.getElem?_eq_some_iff.mp h1).1
    rw [List.getElem?_take_of_lt hn] at h1
    have c2 := s2.cell n p a h1 (by rw [en, List.getElem?_append_left (lt_of_get h2)]; exact h2)
    have c1 := s1.cell n S[n] a (List.getElem?_eq_getElem hn) h2
    have low : lowO L.length p = true := by
      rcases truncOk_at q (List.getElem?_eq_getElem hn) h1 with z | z
      · rw [← z]; exact c1.low
      · rw [s1.len]; exact z
    rw [en] at c2
    exact c2.shrink low
  · rw [if_neg q] at h; cases h
theorem lowE_at {n : Nat} : ∀ {ρ : AEnv} {i : Nat} {d : D}, lowE n ρ = true → ρ[i]? = some (some d) → lowD n d = true
  | [], i, d, _, h => by simp at h
  | none :: r, 0, d, _, h => by simp at h
  | some x :: r, 0, d, q, h => by
    have q' : (lowD n x && lowE n r) = true := q
    rw [Bool.and_eq_true] at q'
    simp at h; subst h; exact q'.1
  | none :: r, i + 1, d, q, h => lowE_at (ρ := r) (i := i) q (by simpa using h)
  | some x :: r, i + 1, d, q, h => by
    have q' : (lowD n x && lowE n r) = true := q
    rw [Bool.and_eq_true] at q'
    exact lowE_at (ρ := r) (i := i) q'.2 (by simpa using h)
theorem SimE.drop {L N : List Addr} {ρ : AEnv} {σ : L2.St} (e : SimE C H (L ++ N) ρ σ) (q : lowE L.length ρ = true) : SimE C H L ρ σ :=
  ⟨e.1, fun i d h => by
    obtain ⟨v, h1, h2⟩ := e.2 i d h
    exact ⟨v, h1, h2.shrink (lowE_at q h)⟩⟩
theorem wipeD_len (ρ : AEnv) : ∀ ks, (wipeD ρ ks).length = ρ.length
  | [] => rfl
  | k :: ks => by show ((wipeD ρ ks).set k none).length = _; rw [List.length_set, wipeD_len ρ ks]
theorem wipeD_at (ρ : AEnv) : ∀ (ks : List Nat) (i : Nat) (d : D), (wipeD ρ ks)[i]? = some (some d) → ρ[i]? = some (some d)
  | [], i, d, h => h
  | k :: ks, i, d, h => by
    have h' : ((wipeD ρ ks).set k none)[i]? = some (some d) := h
    rw [List.getElem?_set] at h'
    by_cases q : k = i
    · rw [if_pos q] at h'
      split at h' <;> cases h'
    · rw [if_neg q] at h'; exact wipeD_at ρ ks i d h'
theorem SimE.wipe {L : List Addr} {ρ : AEnv} {σ : L2.St} (e : SimE C H L ρ σ) (ks : List Nat) : SimE C H L (wipeD ρ ks) σ :=
  ⟨by rw [wipeD_len]; exact e.1, fun i d h => e.2 i d (wipeD_at ρ ks i d h)⟩
theorem Ext.drop {H1 : Hp} {L L' : List Addr} (e : Ext H1 L H L') : Ext H1 L H L := ⟨⟨[], by simp, by simp⟩, e.frame, e.tups, e.frzs, e.dom⟩
/-! ### a result's cells -/
theorem Perm.swap4 {α : Type} (a b c d : List α) : ((a ++ b) ++ (c ++ d)).Perm ((a ++ c) ++ (b ++ d)) := by
  rw [List.append_assoc, List.append_assoc]
  refine List.Perm.append_left a ?_
  rw [← List.append_assoc, ← List.append_assoc]
  exact List.Perm.append_right d List.perm_append_comm
def adrs (L : List Addr) (us : List Nat) : List Addr := us.map fun u => L.getD u 0
/-- what reify gives -/
def ReifyOk (C : Cxt) (H : Hp) (L' : List Addr) (n : Nat) (f : D → Option (D × List Nat)) : Prop := ∀ (d : D) (v : V) (F : List Addr) (r : D × List Nat), Rep C H L' d v F → f d = some r → ∃ G, Rep C H (L'.take n) r.1 v G ∧ G.Perm (F ++ adrs L' r.2) ∧ ∀ u ∈ r.2, n ≤ u ∧ u < L'.length
theorem mapU_ok {L' : List Addr} {n : Nat} {f : D → Option (D × List Nat)} (hf : ReifyOk C H L' n f) : ∀ (d : List D) (v : List V) (F : List Addr) (r : List D × List Nat), Reps C H L' d v F → mapU f d = some r → ∃ G, Reps C H (L'.take n) r.1 v G ∧ G.Perm (F ++ adrs L' r.2) ∧ ∀ u ∈ r.2, n ≤ u ∧ u < L'.length
  | [], _, _, r, .nil, h => by cases h; exact ⟨[], .nil, .refl _, by simp⟩
  | x :: xs, _, _, r, .cons rx rs, h => by
    cases h1 : f x with
    | none => simp only [mapU, h1] at h; cases h
    | some p =>
      cases h2 : mapU f xs with
      | none => simp only [mapU, h1, h2] at h; cases h
      | some q =>
        simp only [mapU, h1, h2] at h
        cases h
        obtain ⟨G1, a1, a2, a3⟩ := hf x _ _ p rx h1
        obtain ⟨G2, b1, b2, b3⟩ := mapU_ok hf xs _ _ q rs h2
        refine ⟨G1 ++ G2, .cons a1 b1, ?_, fun u hu => (List.mem_append.mp hu).elim (a3 u) (b3 u)⟩
        have e : adrs L' (p.2 ++ q.2) = adrs L' p.2 ++ adrs L' q.2 := List.map_append
        show (G1 ++ G2).Perm (_ ++ adrs L' (p.2 ++ q.2))
        rw [e]
        exact (a2.append b2).trans (Perm.swap4 _ _ _ _)
theorem mapUK_ok {L' : List Addr} {n : Nat} {f : D → Option (D × List Nat)} (hf : ReifyOk C H L' n f) : ∀ (d : List (D × D)) (v : List (Key × V)) (F : List Addr) (r : List (D × D) × List Nat), RepKs C H L' d v F → mapUK f d = some r → ∃ G, RepKs C H (L'.take n) r.1 v G ∧ G.Perm (F ++ adrs L' r.2) ∧ ∀ u ∈ r.2, n ≤ u ∧ u < L'.length
  | [], _, _, r, .nil, h => by cases h; exact ⟨[], .nil, .refl _, by simp⟩
  | (k, x) :: xs, _, _, r, .cons kk rx rs, h => by
    cases h1 : f x with
    | none => simp only [mapUK, h1] at h; cases h
    | some p =>
      cases h2 : mapUK f xs with
      | none => simp only [mapUK, h1, h2] at h; cases h
      | some q =>
        simp only [mapUK, h1, h2] at h
        cases h
        obtain ⟨G1, a1, a2, a3⟩ := hf x _ _ p rx h1
        obtain ⟨G2, b1, b2, b3⟩ := mapUK_ok hf xs _ _ q rs h2
        refine ⟨G1 ++ G2, .cons kk a1 b1, ?_, fun u hu => (List.mem_append.mp hu).elim (a3 u) (b3 u)⟩
        have e : adrs L' (p.2 ++ q.2) = adrs L' p.2 ++ adrs L' q.2 := List.map_append
        show (G1 ++ G2).Perm (_ ++ adrs L' (p.2 ++ q.2))
        rw [e]
        exact (a2.append b2).trans (Perm.swap4 _ _ _ _)
theorem mapUF_ok {L' : List Addr} {n : Nat} {f : D → Option (D × List Nat)} (hf : ReifyOk C H L' n f) : ∀ (d : List (Nat × D)) (v : List (Str × V)) (F : List Addr) (r : List (Nat × D) × List Nat), RepFs C H L' d v F → mapUF f d = some r → ∃ G, RepFs C H (L'.take n) r.1 v G ∧ G.Perm (F ++ adrs L' r.2) ∧ ∀ u ∈ r.2, n ≤ u ∧ u < L'.length
  | [], _, _, r, .nil, h => by cases h; exact ⟨[], .nil, .refl _, by simp⟩
  | (k, x) :: xs, _, _, r, .cons rx rs, h => by
    cases h1 : f x with
    | none => simp only [mapUF, h1] at h; cases h
    | some p =>
      cases h2 : mapUF f xs with
      | none => simp only [mapUF, h1, h2] at h; cases h
      | some q =>
        simp only [mapUF, h1, h2] at h
        cases h
        obtain ⟨G1, a1, a2, a3⟩ := hf x _ _ p rx h1
        obtain ⟨G2, b1, b2, b3⟩ := mapUF_ok hf xs _ _ q rs h2
        refine ⟨G1 ++ G2, .cons a1 b1, ?_, fun u hu => (List.mem_append.mp hu).elim (a3 u) (b3 u)⟩
        have e : adrs L' (p.2 ++ q.2) = adrs L' p.2 ++ adrs L' q.2 := List.map_append
        show (G1 ++ G2).Perm (_ ++ adrs L' (p.2 ++ q.2))
        rw [e]
        exact (a2.append b2).trans (Perm.swap4 _ _ _ _)
theorem reifyO_ok {L' : List Addr} {n : Nat} {f : D → Option (D × List Nat)} (hf : ReifyOk C H L' n f) (d : O) (v : HO) (F : List Addr) (r : O × List Nat) (h : RepO C H L' d v F) (e : reifyO f d = some r) : ∃ G, RepO C H (L'.take n) r.1 v G ∧ G.Perm (F ++ adrs L' r.2) ∧ ∀ u ∈ r.2, n ≤ u ∧ u < L'.length := by
  cases h with
  | lst rs =>
    rename_i xs vs
    cases q : mapU f xs with
    | none => simp only [reifyO, q] at e; cases e
    | some p =>
      simp only [reifyO, q] at e; cases e
      obtain ⟨G, a, b, c⟩ := mapU_ok hf _ _ _ p rs q
      exact ⟨G, .lst a, b, c⟩
  | dct rs =>
    rename_i xs vs
    cases q : mapUK f xs with
    | none => simp only [reifyO, q] at e; cases e
    | some p =>
      simp only [reifyO, q] at e; cases e
      obtain ⟨G, a, b, c⟩ := mapUK_ok hf _ _ _ p rs q
      exact ⟨G, .dct a, b, c⟩
  | ins hc rs =>
    rename_i c0 dx xs vs
    cases q : mapUF f xs with
    | none => simp only [reifyO, q] at e; cases e
    | some p =>
      simp only [reifyO, q] at e; cases e
      obtain ⟨G, a, b, c⟩ := mapUF_ok hf _ _ _ p rs q
      exact ⟨G, .ins hc a, b, c⟩
theorem reify_ok {L' : List Addr} {S' : Store} (s : SimS C H L' S') {n : Nat} : ∀ k, ReifyOk C H L' n (reify S' n k)
  | 0, d, v, F, r, _, h => by cases h
  | k + 1, .non, v, F, r, h0, h => by cases h; cases h0; exact ⟨[], .non, .refl _, by simp⟩
  | k + 1, .bl b, v, F, r, h0, h => by cases h; cases h0; exact ⟨[], .bl b, .refl _, by simp⟩
  | k + 1, .int i, v, F, r, h0, h => by cases h; cases h0; exact ⟨[], .int i, .refl _, by simp⟩
  | k + 1, .str z, v, F, r, h0, h => by cases h; cases h0; exact ⟨[], .str z, .refl _, by simp⟩
  | k + 1, .tup xs, v, F, r, h0, h => by
    obtain ⟨a, vs, rfl, ht, rs⟩ := h0.tup_inv
    cases q : mapU (reify S' n k) xs with
    | none => simp only [reify, q] at h; cases h
    | some p =>
      simp only [reify, q] at h; cases h
      obtain ⟨G, a1, b, c⟩ := mapU_ok (reify_ok s k) _ _ _ p rs q
      exact ⟨G, .tup ht a1, b, c⟩
  | k + 1, .new o, v, F, r, h0, h => by
    cases h0 with
    | new ha ro =>
      cases q : reifyO (reify S' n k) o with
      | none => simp only [reify, q] at h; cases h
      | some p =>
        simp only [reify, q] at h; cases h
        obtain ⟨G, a1, b, c⟩ := reifyO_ok (reify_ok s k) _ _ _ p ro q
        exact ⟨_ :: G, .new ha a1, b.cons _, c⟩
  | k + 1, .ref m, v, F, r, h0, h => by
    cases h0 with
    | ref hl =>
      rename_i a
      by_cases q : m < n
      · simp only [reify, if_pos q] at h
        cases h
        exact ⟨[], .ref (by rw [List.getElem?_take_of_lt q]; exact hl), .refl _, by simp⟩
      · simp only [reify, if_neg q] at h
        cases ho : S'[m]? with
        | none => simp only [ho] at h; cases h
        | some o =>
          simp only [ho] at h
          cases q2 : reifyO (reify S' n k) o with
          | none => simp only [q2] at h; cases h
          | some p =>
            simp only [q2] at h
            cases h
            have c := s.cell m o a ho hl
            have mk : ∀ ho', H a = some ho' → RepO C H L' o ho' [] → ∃ G, Rep C H (L'.take n) (.new p.1) (.ref a) G ∧ G.Perm ([] ++ adrs L' (m :: p.2)) ∧ ∀ u ∈ m :: p.2, n ≤ u ∧ u < L'.length := fun ho' ha ro => by
              obtain ⟨G, a1, b, c⟩ := reifyO_ok (reify_ok s k) _ _ _ p ro q2
              refine ⟨a :: G, .new ha a1, ?_, fun u hu => ?_⟩
              · have e : adrs L' (m :: p.2) = a :: adrs L' p.2 := by
                  show L'.getD m 0 :: adrs L' p.2 = _
                  rw [List.getD_eq_getElem?_getD, hl]; rfl
                rw [List.nil_append, e]
                rw [List.nil_append] at b
                exact b.cons a
              · rcases List.mem_cons.mp hu with z | z
                · rw [z]; exact ⟨by omega, lt_of_get hl⟩
                · exact c u z
            cases o with
            | frz xs => cases q2
            | lst xs => obtain ⟨ho', e1, e2⟩ := c; exact mk ho' e1 e2
            | dct xs => obtain ⟨ho', e1, e2⟩ := c; exact mk ho' e1 e2
            | ins c' xs => obtain ⟨ho', e1, e2⟩ := c; exact mk ho' e1 e2
end
end Nv
/-! Nv: loops. -/
namespace Nv
open PySem PySem.Spec PyProof.Rows L2
section
variable {C : Cxt} {R : XR} {X : Cx} {E : XK} {pos p0 apos : Pos} {a b c e o iter : Expr} {es : List Expr} {fo fa fb fc : AEnv → Store → Rs D} {f1 f2 : AEnv → Store → Rs (Fl × AEnv)} {st : Stmt} {rest sa sb : List Stmt}
/-! ### while -/
theorem es_wh {fc : AEnv → Store → Rs D} (hp : PassesOwn (model X.prog X.w) X.A X.env X.xe) (hc : ET C R X E c fc) (hb : ESs C R X E sb f1) (n : Nat) : ES C R X E (.While c sb [] pos) (fun ρ S => whF (truF fc) f1 n ρ S) := by
  obtain ⟨tc, pc, gc⟩ := hc
  obtain ⟨tb, pb, gb⟩ := hb
  refine ⟨_, ps_while hp pc pb, fun σ H L ρ S Z s e h => ?_⟩
  refine ⟨fun m σ' H' => ∃ L' ρ' S', Ext H L H' L' ∧ SimS C H' L' S' ∧ SimE C H' L' ρ' σ' ∧ (whF (truF fc) f1 m ρ' S').sat (OkS C H L Z) (ExW C R E H L), ⟨n, L, ρ, S, Ext.refl _ _, s, e, h⟩, ?_⟩
  rintro m σ1 H1 ⟨L1, ρ1, S1, x1, s1, e1, h1⟩
  cases m with
  | zero => exact h1.elim
  | succ m =>
    have h2 : ((truF fc ρ1 S1).bind fun b S2 => match b with
    | true => (f1 ρ1 S2).bind fun r S3 => match r.1 with
      | .nx => whF (truF fc) f1 m r.2 S3
      | .ct => whF (truF fc) f1 m r.2 S3
      | .bk => .ok (.nx, r.2) S3
      | .rt d => .ok (.rt d, r.2) S3
    | false => .ok (.nx, ρ1) S2).sat (OkS C H L Z) (ExW C R E H L) := h1
    refine gc.first s1 e1 (fun _ _ z => z.later x1) h2 fun k S2 H2 L2 x2 s2 e2 h3 => ?_
    cases k with
    | false =>
      rw [if_neg Bool.false_ne_true]
      exact h3 σ1 H2 L2 (x1.trans x2) s2 e2
    | true =>
      rw [if_pos rfl]
      refine ⟨fun σ' H' => ∃ L' ρ' S', Ext H L H' L' ∧ SimS C H' L' S' ∧ SimE C H' L' ρ' σ' ∧ (whF (truF fc) f1 m ρ' S').sat (OkS C H L Z) (ExW C R E H L), fun σ' H' z => ⟨m, Nat.lt_succ_self m, z⟩, ?_⟩
      have h4 := sat_bind h3
      refine gb σ1 H2 L2 ρ1 S2 _ s2 e2 (sat_mono h4 (fun r S3 z => ?_) fun _ _ z => z.later (x1.trans x2))
      obtain ⟨fl, ρ3⟩ := r
      cases fl with
      | nx => exact fun σ' H' L' x' s' e' => ⟨L', ρ3, S3, (x1.trans x2).trans x', s', e', z⟩
      | ct => exact fun σ' H' L' x' s' e' => ⟨L', ρ3, S3, (x1.trans x2).trans x', s', e', z⟩
      | bk => exact fun σ' H' L' x' s' e' => z σ' H' L' ((x1.trans x2).trans x') s' e'
      | rt d => exact fun v H' L' F p => z v H' L' F (post_later (x1.trans x2) p)
/-! ### what is walked -/
structure WalkI (C : Cxt) (J : L2.It) (items : List D) (gu : Option (Nat × List D)) (Wk : Nat → Hp → List Addr → List Addr → Prop) : Prop where
  car : ∀ i H L H' L' F, Wk i H L F → Car H L H' L' F → Wk i H' L' F
  trk : ∀ i H L F, Wk i H L F → ∀ a ∈ F, ∃ o, H a = some o
  go : ∀ i H L S F d, Wk i H L F → SimS C H L S → guardOk gu S = true → F.Nodup → (∀ a ∈ F, a ∉ L) → items[i]? = some d → J.go i H ∧
    ∀ x H', J.yld i H x H' → ∃ G F', Ext H L H' L ∧ SimS C H' L S ∧ Rep C H' L d x G ∧ Wk (i + 1) H' L F' ∧ (G ++ F').Sublist F
  stop : ∀ i H L S F, Wk i H L F → SimS C H L S → guardOk gu S = true → items.length ≤ i → J.stop i H
def OkI (C : Cxt) (H : Hp) (L : List Addr) (Rq : L2.It → Hp → Prop) (r : List D × Option (Nat × List D)) (S' : Store) : Prop :=
  ∀ J Wk H' L' F, Ext H L H' L' → SimS C H' L' S' → Fr H F L' → WalkI C J r.1 r.2 Wk → Wk 0 H' L' F → Rq J H'
def EI (C : Cxt) (R : XR) (X : Cx) (E : XK) (tg it : Expr) (f : AEnv → Store → Rs (List D × Option (Nat × List D))) : Prop :=
  ∃ wi, PI X tg it wi ∧ ∀ (σ : L2.St) (H : Hp) (L : List Addr) (ρ : AEnv) (S : Store) (Rq : L2.It → Hp → Prop), SimS C H L S → SimE C H L ρ σ → (f ρ S).sat (OkI C H L Rq) (ExW C R E H L) → wi σ H Rq
theorem PI.or {tg it : Expr} {w1 w2 : TI} (h1 : PI X tg it w1) (h2 : PI X tg it w2) : PI X tg it (fun σ H Rq => w1 σ H Rq ∨ w2 σ H Rq) :=
  ⟨fun pins s σ H Rq I h => h.elim (h1.run pins s σ H Rq I) (h2.run pins s σ H Rq I)⟩
/-! ### for -/
theorem es_for {g : G} {sl : List Nat} {tg : Expr} {fi : AEnv → Store → Rs (List D × Option (Nat × List D))} (gc : Option (List Nat)) (hp : PassesOwn (model X.prog X.w) X.A X.env X.xe) (hc : X.calm = true) (hi : EI C R X E tg iter fi) (hg : EG C X tg sl (evalG g)) (hb : ESs C R X E sb f1) (hs : ∀ x, foldedSetIterable iter X.env x = pure x) :
    ES C R X E (.For tg iter sb [] pos) (fun ρ S => (fi ρ S).bind fun r S1 => forF r.2 gc (evalG g) f1 r.1 ρ S1) := by
  obtain ⟨wi, pi, gi⟩ := hi
  obtain ⟨tG, pg, gg⟩ := hg
  obtain ⟨tb, pb, gb⟩ := hb
  refine ⟨_, ps_for hp hc pi pg pb hs, fun σ H L ρ S Z s e h => ?_⟩
  have h0 := sat_bind h
  refine gi σ H L ρ S _ s e (sat_mono h0 (fun r S1 h1 J Wk H1 L1 F1 x1 s1 f1' wk w0 => ?_) fun _ _ z => z)
  obtain ⟨items, gu⟩ := r
  let Inv' : Nat → Nat → L2.St → Hp → Prop := fun i m σ' H' => m + i = items.length ∧ ∃ L' ρ' S' F', Ext H L H' L' ∧ SimS C H' L' S' ∧ SimE C H' L' ρ' σ' ∧ Wk i H' L' F' ∧ F'.Nodup ∧ (∀ a ∈ F', a ∉ L') ∧ (∀ a ∈ F', H a = none) ∧
    (forF gu gc (evalG g) f1 (items.drop i) ρ' S').sat (OkS C H L Z) (ExW C R E H L)
  refine ⟨Inv', ⟨items.length, rfl, L1, ρ, S1, F1, x1, s1, e.ext x1, w0, f1'.nd, f1'.out, f1'.new, h1⟩, ?_⟩
  rintro i m σ2 H2 ⟨hm, L2', ρ2, S2, F2, x2, s2, e2, wk2, nd2, ou2, nw2, h2⟩
  have gd : guardOk gu S2 = true := by
    cases hq : guardOk gu S2 with
    | true => rfl
    | false =>
      cases hd : items.drop i with
      | nil => rw [hd] at h2; simp only [forF, hq] at h2; exact h2.elim
      | cons d ds => rw [hd] at h2; simp only [forF, hq] at h2; exact h2.elim
  cases hd : items.drop i with
  | nil =>
    rw [hd] at h2
    simp only [forF, gd, if_true] at h2
    have hlen : items.length ≤ i := by
      have := congrArg List.length hd
      simp at this; omega
    exact .inl ⟨wk.stop i H2 L2' S2 F2 wk2 s2 gd hlen, h2 σ2 H2 L2' x2 s2 e2⟩
  | cons d ds =>
    rw [hd] at h2
    simp only [forF, gd, if_true] at h2
    have hi : items[i]? = some d := by
      have : (items.drop i)[0]? = some d := by rw [hd]; rfl
      rwa [List.getElem?_drop, Nat.add_zero] at this
    have hds : ds = items.drop (i + 1) := by
      have : (items.drop i).drop 1 = ds := by rw [hd]; rfl
      rw [← this, List.drop_drop]
    have hlt : i < items.length := (List.getElem?_eq_some_iff.mp hi).1
    obtain ⟨go, yl⟩ := wk.go i H2 L2' S2 F2 d wk2 s2 gd nd2 ou2 hi
    refine .inr ⟨go, fun σ' H' => Inv' (i + 1) (m - 1) σ' H', fun σ' H' z => ⟨m - 1, by omega, z⟩, fun x H3 hy => ?_⟩
    obtain ⟨G, F3, x3, s3, r3, wk3, sub⟩ := yl x H3 hy
    have subG : G.Sublist F2 := (List.sublist_append_left G F3).trans sub
    have subF : F3.Sublist F2 := (List.sublist_append_right G F3).trans sub
    have ndGF : (G ++ F3).Nodup := nd2.sublist sub
    have ndGF' := List.nodup_append.mp ndGF
    have h3 := sat_bind h2
    refine gg H3 L2' S2 ρ2 σ2 d x G _ s3 (e2.ext x3) r3 ndGF'.1 (fun a ha => ou2 a (subG.subset ha)) ?_
    cases hq : evalG g d ρ2 S2 with
    | ex y S' => exact absurd hq (evalG_noex _ _ _ _ _ _)
    | stuck => rw [hq] at h3; exact h3.elim
    | ok ρ3 S3 =>
      rw [hq] at h3
      have h3' : ((f1 ρ3 S3).bind fun r S4 => match r.1 with
      | .nx => (turnEnd gc S2 r.2 S4).bind fun ρ3 S3 => forF gu gc (evalG g) f1 ds ρ3 S3
      | .ct => (turnEnd gc S2 r.2 S4).bind fun ρ3 S3 => forF gu gc (evalG g) f1 ds ρ3 S3
      | .bk => .ok (.nx, r.2) S4
      | .rt d => .ok (.rt d, r.2) S4).sat (OkS C H L Z) (ExW C R E H L) := h3
      intro σ3 M s4 e4 hM wip
      have x23 : Ext H L H3 L2' := x2.trans x3
      have x4 : Ext H L H3 (L2' ++ M) := by
        obtain ⟨N, en, nn⟩ := x23.pre
        refine ⟨⟨N ++ M, by rw [en, List.append_assoc], fun a ha => ?_⟩, x23.frame, x23.tups, x23.frzs, x23.dom⟩
        rcases List.mem_append.mp ha with q | q
        · exact nn a q
        · exact nw2 a (subG.subset (hM a q))
      have h4 := sat_bind h3'
      -- a turn that goes on
      have next : ∀ (ρ4 : AEnv) (S4 : Store), ((turnEnd gc S2 ρ4 S4).bind fun ρ3 S3 => forF gu gc (evalG g) f1 ds ρ3 S3).sat (OkS C H L Z) (ExW C R E H L) → ∀ σ' H' L', Ext H3 (L2' ++ M) H' L' → SimS C H' L' S4 → SimE C H' L' ρ4 σ' → Inv' (i + 1) (m - 1) σ' H' := by
        intro ρ4 S4 h5 σ' H' L' x5 s5 e5
        have outM : ∀ a ∈ F3, a ∉ L2' ++ M := fun a ha hm => by
          rcases List.mem_append.mp hm with q | q
          · exact ou2 a (subF.subset ha) q
          · exact ndGF'.2.2 a (hM a q) a ha rfl
        have carF : Car H3 (L2' ++ M) H' L' F3 := x5.car outM
        have wk5 : Wk (i + 1) H' L' F3 := wk.car _ _ _ _ _ _ wk3 ⟨carF.tups, carF.frzs, fun n a hn => carF.pre n a (by rw [List.getElem?_append_left (lt_of_get hn)]; exact hn), carF.keep⟩
        have out5 : ∀ a ∈ F3, a ∉ L' := fun a ha => by
          obtain ⟨o, ho⟩ := wk.trk _ _ _ _ wk3 a ha
          exact x5.out ho (outM a ha)
        have h6 := sat_bind h5
        refine ⟨by omega, ?_⟩
        cases gc with
        | none => exact ⟨L', ρ4, S4, F3, x4.trans x5, s5, e5, wk5, nd2.sublist subF, out5, fun a ha => nw2 a (subF.subset ha), by rw [← hds]; exact h6⟩
        | some ks =>
          have h6' : (turnEnd (some ks) S2 ρ4 S4).sat (fun a S => (forF gu (some ks) (evalG g) f1 ds a S).sat (OkS C H L Z) (ExW C R E H L)) (ExW C R E H L) := h6
          unfold turnEnd at h6'
          by_cases q1 : lowE S2.length (wipeD ρ4 ks) = true
          · simp only [if_pos q1] at h6'
            cases ht : trunc S2 S4 with
            | none => simp only [ht] at h6'; exact h6'.elim
            | some T =>
              simp only [ht] at h6'
              obtain ⟨N, en, nn⟩ := x5.pre
              have en' : L' = L2' ++ (M ++ N) := by rw [en, List.append_assoc]
              have x25 := x4.trans x5
              have tk := trunc_ok s2 ⟨M ++ N, en'⟩ s5 ht
              have e6 : SimE C H' L2' (wipeD ρ4 ks) σ' := by
                rw [en'] at e5
                exact (e5.wipe ks).drop (by rw [s2.len]; exact q1)
              exact ⟨L2', wipeD ρ4 ks, T, F3, ⟨x2.pre, x25.frame, x25.tups, x25.frzs, x25.dom⟩, tk.1, e6, wk.car _ _ _ _ _ _ wk3 ⟨carF.tups, carF.frzs, fun n a hn => hn, carF.keep⟩, nd2.sublist subF, fun a ha => ou2 a (subF.subset ha), fun a ha => nw2 a (subF.subset ha), by rw [← hds]; exact h6'⟩
          · simp only [if_neg q1] at h6'; exact h6'.elim
      refine gb σ3 H3 (L2' ++ M) ρ3 S3 _ s4 e4 (sat_mono h4 (fun r S4 z => ?_) fun _ _ z => z.later x4)
      obtain ⟨fl, ρ4⟩ := r
      cases fl with
      | nx => exact fun σ' H' L' x5 s5 e5 => next ρ4 S4 z σ' H' L' x5 s5 e5
      | ct => exact fun σ' H' L' x5 s5 e5 => next ρ4 S4 z σ' H' L' x5 s5 e5
      | bk => exact fun σ' H' L' x5 s5 e5 => z σ' H' L' (x4.trans x5) s5 e5
      | rt d => exact fun v H' L' F p => z v H' L' F (post_later x4 p)
end
end Nv
/-! Nv: what a loop walks. -/
namespace Nv
open PySem PySem.Spec PyProof.Rows L2
section
variable {C : Cxt} {R : XR} {X : Cx} {E : XK} {pos p0 : Pos} {e tg : Expr} {es : List Expr} {fa : AEnv → Store → Rs D} {fs : AEnv → Store → Rs (List D)}
theorem Reps.step {H : Hp} {L : List Addr} {xs : List D} {vs : List V} {F : List Addr} {i : Nat} {d : D} (r : Reps C H L (xs.drop i) (vs.drop i) F) (h : xs[i]? = some d) :
    ∃ v G F', vs[i]? = some v ∧ Rep C H L d v G ∧ Reps C H L (xs.drop (i + 1)) (vs.drop (i + 1)) F' ∧ F = G ++ F' := by
  have hlt := (List.getElem?_eq_some_iff.mp h).1
  have hx : xs.drop i = d :: xs.drop (i + 1) := by
    rw [List.drop_eq_getElem_cons hlt]
    rw [List.getElem?_eq_getElem hlt] at h
    cases h; rfl
  rw [hx] at r
  generalize hw : vs.drop i = w at r
  cases r with
  | cons r s =>
    rename_i v G vs' F'
    refine ⟨v, G, F', ?_, r, ?_, rfl⟩
    · have : (vs.drop i)[0]? = some v := by rw [hw]; rfl
      rwa [List.getElem?_drop, Nat.add_zero] at this
    · have : vs.drop (i + 1) = vs' := by
        have : (vs.drop i).drop 1 = vs' := by rw [hw]; rfl
        rwa [List.drop_drop] at this
      rw [this]; exact s
/-- a list walked -/
structure LWk (C : Cxt) (a : Addr) (xs : List D) (gu : Option (Nat × List D)) (Wk : Nat → Hp → List Addr → List Addr → Prop) : Prop where
  car : ∀ i H L H' L' F, Wk i H L F → Car H L H' L' F → Wk i H' L' F
  trk : ∀ i H L F, Wk i H L F → ∀ a ∈ F, ∃ o, H a = some o
  at_ : ∀ i H L S F, Wk i H L F → SimS C H L S → guardOk gu S = true → ∃ vs, SqL C.K H a vs ∧ xs.length = vs.length ∧
    ∀ d, xs[i]? = some d → ∃ v G F', vs[i]? = some v ∧ Rep C H L d v G ∧ Wk (i + 1) H L F' ∧ (G ++ F').Sublist F
theorem lw_new {a : Addr} {xs : List D} {vs : List V} (hl : xs.length = vs.length) : LWk C a xs none (fun i H L F => ∃ F0, F = F0 ++ [a] ∧ H a = some (.lst vs) ∧ Reps C H L (xs.drop i) (vs.drop i) F0) where
  car := by
    rintro i H L H' L' F ⟨F0, rfl, h, r⟩ c
    exact ⟨F0, rfl, c.keep a (by simp) _ h, r.car (c.sub fun _ q => List.mem_append_left _ q)⟩
  trk := by
    rintro i H L F ⟨F0, rfl, h, r⟩ b hb
    rcases List.mem_append.mp hb with q | q
    · exact r.trk b q
    · have : b = a := by simpa using q
      subst this; exact ⟨_, h⟩
  at_ := by
    rintro i H L S F ⟨F0, rfl, h, r⟩ s _
    refine ⟨vs, SqL.of h, hl, fun d hd => ?_⟩
    obtain ⟨v, G, F', h1, h2, h3, rfl⟩ := r.step hd
    exact ⟨v, G, F' ++ [a], h1, h2, ⟨F', rfl, h, h3⟩, by rw [List.append_assoc]; exact List.Sublist.refl _⟩
theorem sqL_cell {H : Hp} {L : List Addr} {S : Store} {n : Nat} {a : Addr} {xs : List D} (s : SimS C H L S) (hl : L[n]? = some a) (h : (∃ ys, S[n]? = some (.lst ys) ∧ ys = xs) ∨ (∃ ys, S[n]? = some (.frz ys) ∧ ys = xs)) : ∃ vs, SqL C.K H a vs ∧ Reps C H L xs vs [] := by
  rcases h with ⟨ys, h, rfl⟩ | ⟨ys, h, rfl⟩
  · obtain ⟨vs, e1, e2⟩ := (s.cell n _ a h hl).lst
    exact ⟨vs, SqL.of e1, e2⟩
  · obtain ⟨ob, vs, e1, e2⟩ := s.cell n _ a h hl
    exact ⟨vs, .inl (.inr ⟨ob, e1⟩), e2⟩
theorem guard_at {n : Nat} {xs : List D} {S : Store} (h : guardOk (some (n, xs)) S = true) : (∃ ys, S[n]? = some (.lst ys) ∧ ys = xs) ∨ (∃ ys, S[n]? = some (.frz ys) ∧ ys = xs) := by
  unfold guardOk at h
  cases q : S[n]? with
  | none => simp only [q] at h; cases h
  | some o =>
    cases o with
    | lst ys => simp only [q] at h; exact .inl ⟨ys, rfl, (sameDs_eq _ _ h).symm⟩
    | frz ys => simp only [q] at h; exact .inr ⟨ys, rfl, (sameDs_eq _ _ h).symm⟩
    | _ => simp only [q] at h; cases h
theorem lw_ref {a : Addr} {n : Nat} {xs : List D} : LWk C a xs (some (n, xs)) (fun i H L F => F = [] ∧ L[n]? = some a) where
  car := by
    rintro i H L H' L' F ⟨rfl, h⟩ c
    exact ⟨rfl, c.pre _ _ h⟩
  trk := by
    rintro i H L F ⟨rfl, h⟩ b hb
    cases hb
  at_ := by
    rintro i H L S F ⟨rfl, h⟩ s g
    obtain ⟨vs, q, r⟩ := sqL_cell s h (guard_at g)
    refine ⟨vs, q, r.length, fun d hd => ?_⟩
    obtain ⟨v, G, h1, h2, h3⟩ := r.at hd
    exact ⟨v, G, [], h1, h2, ⟨rfl, h⟩, by simpa using h3⟩
theorem lw_of {H : Hp} {L : List Addr} {S : Store} {x : D} {v : V} {F : List Addr} {xs : List D} (s : SimS C H L S) (r : Rep C H L x v F) (h : lisOf x S = some xs) :
    ∃ a Wk F0, v = .ref a ∧ LWk C a xs (guardOf x xs) Wk ∧ Wk 0 H L F0 ∧ F0.Perm F ∧ ∃ vs, SqL C.K H a vs := by
  cases r with
  | new ha ro =>
    cases ro with
    | lst rs =>
      cases h
      exact ⟨_, _, _, rfl, lw_new rs.length, ⟨_, rfl, ha, rs⟩, List.perm_append_comm, _, SqL.of ha⟩
    | dct _ => cases h
    | ins _ _ => cases h
  | ref hl =>
    rename_i n a
    simp only [lisOf] at h
    have q : (∃ ys, S[n]? = some (.lst ys) ∧ ys = xs) ∨ (∃ ys, S[n]? = some (.frz ys) ∧ ys = xs) := by
      cases e : S[n]? with
      | none => rw [e] at h; cases h
      | some o =>
        rw [e] at h
        cases o with
        | lst ys => cases h; exact .inl ⟨_, rfl, rfl⟩
        | frz ys => cases h; exact .inr ⟨_, rfl, rfl⟩
        | dct _ => cases h
        | ins _ _ => cases h
    obtain ⟨vs, q1, _⟩ := sqL_cell s hl q
    exact ⟨a, _, [], rfl, lw_ref, ⟨rfl, hl⟩, .refl _, vs, q1⟩
  | _ => cases h
theorem Fr.perm {H : Hp} {F G L : List Addr} (f : Fr H F L) (p : G.Perm F) : Fr H G L := ⟨fun a h => f.new a (p.mem_iff.mp h), p.nodup_iff.mpr f.nd, fun a h => f.out a (p.mem_iff.mp h)⟩
/-! ### plainly -/
theorem LWk.itl {a : Addr} {xs : List D} {gu : Option (Nat × List D)} {Wk : Nat → Hp → List Addr → List Addr → Prop} (w : LWk C a xs gu Wk) : WalkI C (Itl C.K a) xs gu Wk where
  car := w.car
  trk := w.trk
  go := fun i H L S F d hw s g nd ou hd => by
    obtain ⟨vs, q, hl, h⟩ := w.at_ i H L S F hw s g
    obtain ⟨v, G, F', h1, h2, h3, h4⟩ := h d hd
    refine ⟨⟨vs, v, q, h1⟩, ?_⟩
    rintro x H' ⟨rfl, y⟩
    have e : v = x := by
      have := y vs q
      rw [h1] at this; exact Option.some.inj this
    subst e
    exact ⟨G, F', Ext.refl _ _, s, h2, h3, h4⟩
  stop := fun i H L S F hw s g hi => by
    obtain ⟨vs, q, hl, h⟩ := w.at_ i H L S F hw s g
    exact ⟨vs, q, by omega⟩
theorem walk_tup {a : Addr} {xs : List D} {vs : List V} (hl : xs.length = vs.length) : WalkI C (Itt C.K a) xs none (fun i H L F => SqT C.K H a vs ∧ Reps C H L (xs.drop i) (vs.drop i) F) where
  car := by
    rintro i H L H' L' F ⟨h, r⟩ c
    exact ⟨SqT.ext c.tups c.frzs h, r.car c⟩
  trk := by
    rintro i H L F ⟨h, r⟩ b hb
    exact r.trk b hb
  go := by
    rintro i H L S F d ⟨h, r⟩ s _ _ _ hd
    obtain ⟨v, G, F', h1, h2, h3, rfl⟩ := r.step hd
    refine ⟨⟨vs, v, h, h1⟩, ?_⟩
    rintro x H' ⟨rfl, y⟩
    have e : v = x := by
      have := y vs h
      rw [h1] at this; exact Option.some.inj this
    subst e
    exact ⟨G, F', Ext.refl _ _, s, h2, ⟨h, h3⟩, List.Sublist.refl _⟩
  stop := by
    rintro i H L S F ⟨h, r⟩ s _ hi
    exact ⟨vs, h, by omega⟩
theorem lis_of_seq {x : D} {S : Store} (h : ∀ ys, x ≠ .tup ys) : lisOf x S = seqOf x S := by
  cases x with
  | tup ys => exact absurd rfl (h ys)
  | new o => cases o <;> rfl
  | _ => rfl
theorem ei_of (hK : X.K = C.K) (ha : EE C R X E e fa) : EI C R X E tg e (fun ρ S => (fa ρ S).bind fun x S1 => match seqOf x S1 with
    | some xs => .ok (xs, guardOf x xs) S1
    | none => .stuck) := by
  obtain ⟨ta, pa, ga⟩ := ha
  refine ⟨_, PI.or (pi_list pa) (pi_tup pa), fun σ H L ρ S Rq s e h => ?_⟩
  rw [hK]
  dsimp only at h
  cases hq : fa ρ S with
  | stuck => rw [hq] at h; exact h.elim
  | ex y S1 => rw [hq] at h; exact .inl (ga σ H L ρ S _ s e (by rw [hq]; exact h))
  | ok x S1 =>
    rw [hq] at h
    have h : Rs.sat (match seqOf x S1 with
    | some xs => .ok (xs, guardOf x xs) S1
    | none => .stuck) (OkI C H L Rq) (ExW C R E H L) := h
    cases hs : seqOf x S1 with
    | none => rw [hs] at h; exact h.elim
    | some xs =>
      rw [hs] at h
      have h : OkI C H L Rq (xs, guardOf x xs) S1 := h
      by_cases ht : ∃ ys, x = .tup ys
      · obtain ⟨ys, rfl⟩ := ht
        cases hs
        refine .inr (ga σ H L ρ S _ s e ?_)
        rw [hq]
        intro v H1 L1 F p1
        obtain ⟨a, vs, rfl, ht, rs⟩ := p1.rep.tup_inv
        exact ⟨a, rfl, ⟨vs, ht⟩, h _ _ H1 L1 F p1.ext p1.sim p1.fr (walk_tup rs.length) ⟨ht, rs⟩⟩
      · refine .inl (ga σ H L ρ S _ s e ?_)
        rw [hq]
        intro v H1 L1 F p1
        rw [← lis_of_seq fun ys q => ht ⟨ys, q⟩] at hs
        obtain ⟨a, Wk, F0, rfl, w, w0, pm, sq⟩ := lw_of p1.sim p1.rep hs
        exact ⟨a, rfl, sq, h _ _ H1 L1 F0 p1.ext p1.sim (p1.fr.perm pm) w.itl w0⟩
/-! ### enumerate -/
theorem enumD_at : ∀ {xs : List D} {k i : Nat}, (enumD k xs)[i]? = (xs[i]?).map fun x => D.tup [.int ((k + i : Nat) : Int), x]
  | [], k, i => by simp [enumD]
  | x :: xs, k, 0 => by simp [enumD]
  | x :: xs, k, i + 1 => by
    show (enumD (k + 1) xs)[i]? = _
    rw [enumD_at, show k + 1 + i = k + (i + 1) by omega]
    simp
theorem enumD_len : ∀ (xs : List D) (k : Nat), (enumD k xs).length = xs.length
  | [], k => rfl
  | x :: xs, k => by show (enumD (k + 1) xs).length + 1 = _; rw [enumD_len]; rfl
theorem LWk.ite {a : Addr} {xs : List D} {gu : Option (Nat × List D)} {Wk : Nat → Hp → List Addr → List Addr → Prop} (w : LWk C a xs gu Wk) : WalkI C (Ite C.K a) (enumD 0 xs) gu Wk where
  car := w.car
  trk := w.trk
  go := fun i H L S F d hw s g nd ou hd => by
    obtain ⟨vs, q, hl, h⟩ := w.at_ i H L S F hw s g
    rw [enumD_at, Nat.zero_add] at hd
    cases hx : xs[i]? with
    | none => rw [hx] at hd; cases hd
    | some x0 =>
      rw [hx] at hd
      cases hd
      obtain ⟨v, G, F', h1, h2, h3, h4⟩ := h x0 hx
      refine ⟨⟨vs, v, q, h1⟩, ?_⟩
      rintro x H' ⟨T, x', rfl, hT, rfl, y⟩
      have e : v = x' := by
        have := y vs q
        rw [h1] at this; exact Option.some.inj this
      subst e
      have ex : Ext H L (upd H T (.tup [.int (i : Nat), v])) L := Ext.new hT
      have cr : ∀ {Z : List Addr}, (∀ a ∈ Z, a ∉ L) → Car H L (upd H T (.tup [.int (i : Nat), v])) L Z := fun hz => ex.car hz
      refine ⟨G, F', ex, s.new hT (s.notin hT), .tup (xs := [.int (i : Nat), x0]) (vs := [.int (i : Nat), v]) (F := G) (.inl (.inl upd_same)) ?_, w.car _ _ _ _ _ _ h3 (cr fun a ha => ou a (h4.subset (List.mem_append_right _ ha))), h4⟩
      have r2 := h2.car (cr fun a ha => ou a (h4.subset (List.mem_append_left _ ha)))
      have := Reps.cons (Rep.int (C := C) (H := upd H T (.tup [.int (i : Nat), v])) (L := L) (i : Nat)) (Reps.cons r2 .nil)
      simpa using this
  stop := fun i H L S F hw s g hi => by
    obtain ⟨vs, q, hl, h⟩ := w.at_ i H L S F hw s g
    rw [enumD_len] at hi
    exact ⟨vs, q, by omega⟩
theorem ei_enum {elts : List Expr} {kk : Nat} {tpos : Pos} (hK : X.K = C.K) (hg : Gl X "enumerate") (hm : X.mg "enumerate" = none) (ns : noStar1 e = true) (ha : EE C R X E e fa) : EI C R X E (.Tuple elts kk tpos) (.Call (.Name "enumerate" p0) [e] [] pos) (fun ρ S => (fa ρ S).bind fun x S1 => match lisOf x S1 with
    | some xs => .ok (enumD 0 xs, guardOf x xs) S1
    | none => .stuck) := by
  obtain ⟨ta, pa, ga⟩ := ea_cons ha ea_nil (starEach_ns ns)
  refine ⟨_, pi_enum hg hm pa (starEach_ns ns), fun σ H L ρ S Rq s e h => ?_⟩
  rw [hK]
  refine ga σ H L ρ S _ s e ?_
  dsimp only at h ⊢
  cases hq : fa ρ S with
  | stuck => rw [hq] at h; exact h.elim
  | ex y S1 => rw [hq] at h; exact h
  | ok x S1 =>
    rw [hq] at h
    have h : Rs.sat (match lisOf x S1 with
    | some xs => .ok (enumD 0 xs, guardOf x xs) S1
    | none => .stuck) (OkI C H L Rq) (ExW C R E H L) := h
    cases hs : lisOf x S1 with
    | none => rw [hs] at h; exact h.elim
    | some xs =>
      rw [hs] at h
      have h : OkI C H L Rq (enumD 0 xs, guardOf x xs) S1 := h
      intro v H1 L1 F p1
      obtain ⟨ext, sim, rep, fr⟩ := p1
      cases rep with
      | cons r rr =>
        cases rr
        rename_i v0 F0
        rw [List.append_nil] at fr
        obtain ⟨a, Wk, F1, rfl, w, w0, pm, vs, sq⟩ := lw_of sim r hs
        exact ⟨a, vs, rfl, sq, h _ _ H1 L1 F1 ext sim (fr.perm pm) w.ite w0⟩
/-! ### range -/
theorem walk_range (lo : Int) (n : Nat) : WalkI C (Itr lo n) ((List.range n).map fun k => D.int (lo + (k : Nat))) none (fun _ _ _ F => F = []) where
  car := fun _ _ _ _ _ _ h _ => h
  trk := by
    rintro i H L F rfl a ha
    cases ha
  go := by
    rintro i H L S F d rfl s _ _ _ hd
    have hi : i < n := by
      have := (List.getElem?_eq_some_iff.mp hd).1
      simpa using this
    refine ⟨hi, ?_⟩
    rintro x H' ⟨rfl, rfl⟩
    rw [List.getElem?_map, List.getElem?_range hi] at hd
    cases hd
    exact ⟨[], [], Ext.refl _ _, s, .int _, rfl, by simp⟩
  stop := by
    rintro i H L S F rfl s _ hi
    have hi' : n ≤ i := by simpa using hi
    exact hi'
theorem ei_range1 (hg : Gl X "range") (hm : X.mg "range" = none) (ns : noStar1 e = true) (ha : EE C R X E e fa) : EI C R X E tg (.Call (.Name "range" p0) [e] [] pos) (fun ρ S => ((fa ρ S).bind fun x S1 => (Rs.ok [] S1).bind fun xs S2 => .ok (x :: xs) S2).bind fun xs S1 => match rangeD xs with
    | some ys => .ok (ys, none) S1
    | none => .stuck) := by
  obtain ⟨ta, pa, ga⟩ := ea_cons ha ea_nil (starEach_ns ns)
  refine ⟨_, pi_range1 hg hm pa (starEach_ns ns), fun σ H L ρ S Rq s e h => ?_⟩
  refine ga σ H L ρ S _ s e ?_
  dsimp only at h ⊢
  cases hq : fa ρ S with
  | stuck => rw [hq] at h; exact h.elim
  | ex y S1 => rw [hq] at h; exact h
  | ok x S1 =>
    rw [hq] at h
    have h : Rs.sat (match rangeD [x] with
    | some ys => .ok (ys, none) S1
    | none => .stuck) (OkI C H L Rq) (ExW C R E H L) := h
    intro v H1 L1 F p1
    obtain ⟨ext, sim, rep, fr⟩ := p1
    cases x with
    | int j =>
      by_cases q : -(2 ^ 62) ≤ j ∧ j < 2 ^ 62
      · simp only [rangeD, if_pos q] at h
        have h : OkI C H L Rq _ S1 := h
        cases rep with
        | cons r rr =>
          cases rr
          obtain ⟨rfl, rfl⟩ := r.int_inv
          exact ⟨j, rfl, q.1, q.2, h _ _ H1 L1 [] ext sim (Fr.nil _ _) (walk_range 0 j.toNat) rfl⟩
      · simp only [rangeD, if_neg q] at h; exact h.elim
    | _ => exact h.elim
theorem ei_range2 {e2 : Expr} {fb : AEnv → Store → Rs D} (hg : Gl X "range") (hm : X.mg "range" = none) (ns : noStar1 e = true) (ns2 : noStar1 e2 = true) (ha : EE C R X E e fa) (hb : EE C R X E e2 fb) :
    EI C R X E tg (.Call (.Name "range" p0) [e, e2] [] pos) (fun ρ S => ((fa ρ S).bind fun x S1 => ((fb ρ S1).bind fun y S2 => (Rs.ok [] S2).bind fun xs S3 => .ok (y :: xs) S3).bind fun xs S2 => .ok (x :: xs) S2).bind fun xs S1 => match rangeD xs with
    | some ys => .ok (ys, none) S1
    | none => .stuck) := by
  obtain ⟨ta, pa, ga⟩ := ea_cons ha (ea_cons hb ea_nil (starEach_ns ns2)) (starEach_ns ns)
  refine ⟨_, pi_range2 hg hm pa (by rw [starEach_ns ns, starEach_ns ns2]; rfl) (starEach_ns ns2), fun σ H L ρ S Rq s e h => ?_⟩
  refine ga σ H L ρ S _ s e ?_
  dsimp only at h ⊢
  cases hq : fa ρ S with
  | stuck => rw [hq] at h; exact h.elim
  | ex y S1 => rw [hq] at h; exact h
  | ok x S1 =>
    rw [hq] at h
    cases hq2 : fb ρ S1 with
    | stuck => simp only [Rs.bind, hq2] at h; exact h.elim
    | ex y S2 => simp only [Rs.bind, hq2] at h ⊢; exact h
    | ok y S2 =>
      simp only [Rs.bind, hq2] at h ⊢
      intro v H1 L1 F p1
      obtain ⟨ext, sim, rep, fr⟩ := p1
      have no : rangeD [x, y] = none → False := fun q => by rw [q] at h; exact h
      cases x with
      | int i =>
        cases y with
        | int j =>
          by_cases q : -(2 ^ 62) ≤ i ∧ i < 2 ^ 62 ∧ -(2 ^ 62) ≤ j ∧ j < 2 ^ 62
          · simp only [rangeD, if_pos q] at h
            have h : OkI C H L Rq _ S2 := h
            cases rep with
            | cons r rr =>
              cases rr with
              | cons r' rr =>
                cases rr
                obtain ⟨rfl, rfl⟩ := r.int_inv
                obtain ⟨rfl, rfl⟩ := r'.int_inv
                exact ⟨i, j, rfl, q, h _ _ H1 L1 [] ext sim (Fr.nil _ _) (walk_range i _) rfl⟩
          · exact (no (by simp only [rangeD, if_neg q])).elim
        | _ => exact (no rfl).elim
      | _ => exact (no (by cases y <;> rfl)).elim
end
end Nv
/-! Nv: comprehensions. -/
namespace Nv
open PySem PySem.Spec PyProof.Rows L2
def E0' : XK := fun _ _ _ => False
section
variable {C : Cxt} {R : XR} {X : Cx} {E : XK} {pos p0 : Pos} {e tg iter elt : Expr} {es ifs : List Expr} {fa fe : AEnv → Store → Rs D} {fs : AEnv → Store → Rs (List D)} {ft : AEnv → Store → Rs Bool}
/-! ### the weakest promises -/
def cE (C : Cxt) (R : XR) (E : XK) (f : AEnv → Store → Rs D) : TE := fun σ H Q => ∃ L ρ S, SimS C H L S ∧ SimE C H L ρ σ ∧ (f ρ S).sat (OkW C H L Q) (ExW C R E H L)
theorem EE.canon {f : AEnv → Store → Rs D} (h : EE C R X E e f) : PE X e (cE C R E f) := by
  obtain ⟨t, p, g⟩ := h
  exact ⟨fun pins s σ H Q I ⟨L, ρ, S, h1, h2, h3⟩ => p.run pins s σ H Q I (g σ H L ρ S Q h1 h2 h3)⟩
def cG (C : Cxt) (sl : List Nat) (f : D → AEnv → Store → Rs AEnv) : TG := fun v σ H Q => ∃ L S ρ d F, SimS C H L S ∧ SimE C H L ρ σ ∧ Rep C H L d v F ∧ F.Nodup ∧ (∀ a ∈ F, a ∉ L) ∧
    (f d ρ S).sat (fun ρ' S' => ∀ σ' M, SimS C H (L ++ M) S' → SimE C H (L ++ M) ρ' σ' → (∀ a ∈ M, a ∈ F) → Wip sl σ σ' → Q σ' H) (fun _ _ => False)
theorem EG.canon {sl : List Nat} {f : D → AEnv → Store → Rs AEnv} (h : EG C X e sl f) : PG X e (cG C sl f) := by
  obtain ⟨t, p, g⟩ := h
  exact ⟨fun pins s σ H v u Q I r ⟨L, S, ρ, d, F, h1, h2, h3, h4, h5, h6⟩ => p.run pins s σ H v u Q I r (g H L S ρ σ d v F Q h1 h2 h3 h4 h5 h6)⟩
/-- the conditions of a clause -/
def EF (C : Cxt) (R : XR) (X : Cx) (E : XK) (ifs : List Expr) (f : AEnv → Store → Rs Bool) : Prop := ∃ t, PTs X ifs t ∧ GoodT C R E t f
def cT (C : Cxt) (R : XR) (E : XK) (f : AEnv → Store → Rs Bool) : TT := fun σ H Q => ∃ L ρ S, SimS C H L S ∧ SimE C H L ρ σ ∧ (f ρ S).sat (OkP C H L Q) (ExW C R E H L)
theorem EF.canon (h : EF C R X E ifs ft) : PTs X ifs (cT C R E ft) := by
  obtain ⟨t, p, g⟩ := h
  exact ⟨fun pins s σ H Q I ⟨L, ρ, S, h1, h2, h3⟩ => p.run pins s σ H Q I (g σ H L ρ S Q h1 h2 h3)⟩
theorem ef_nil : EF C R X E [] (fun _ S => .ok true S) := ⟨_, pts_nil, fun σ H L ρ S Q s e h => h H L (Ext.refl _ _) s⟩
theorem ef_one (h : ET C R X E e fa) : EF C R X E [e] (truF fa) := let ⟨t, p, g⟩ := h; ⟨t, pts_one p, g⟩
/-! ### wiping -/
theorem wipe_in {σ : L2.St} {i : Nat} : ∀ {vs : List Nat}, i ∈ vs → i < σ.length → (wipe σ vs)[i]? = some none
  | v :: vs, h, hl => by
    show ((wipe σ vs).set v none)[i]? = some none
    by_cases q : v = i
    · subst q
      rw [List.getElem?_set_self (by rw [wipe_length]; exact hl)]
    · rw [List.getElem?_set_ne q]
      rcases List.mem_cons.mp h with z | z
      · exact absurd z.symm q
      · exact wipe_in z hl
theorem wipe_wip {sl vs : List Nat} {σ σ2 : L2.St} (w : Wip sl (wipe σ vs) σ2) (h : ∀ i ∈ sl, i ∈ vs) : wipe σ2 vs = wipe σ vs := by
  have hl : σ2.length = σ.length := by rw [w.1, wipe_length]
  apply List.ext_getElem?
  intro i
  by_cases q : i ∈ vs
  · by_cases hi : i < σ.length
    · rw [wipe_in q (by omega), wipe_in q hi]
    · rw [List.getElem?_eq_none (by rw [wipe_length]; omega), List.getElem?_eq_none (by rw [wipe_length]; omega)]
  · rw [wipe_out q, w.2 i fun z => q (h i z)]
theorem wipeD_not {ρ : AEnv} : ∀ {ks : List Nat} {i : Nat} {d : D}, (wipeD ρ ks)[i]? = some (some d) → i ∉ ks
  | [], i, d, h => by simp
  | k :: ks, i, d, h => by
    have h' : ((wipeD ρ ks).set k none)[i]? = some (some d) := h
    rw [List.getElem?_set] at h'
    by_cases q : k = i
    · rw [if_pos q] at h'
      split at h' <;> cases h'
    · rw [if_neg q] at h'
      intro z
      rcases List.mem_cons.mp z with z | z
      · exact q z.symm
      · exact wipeD_not h' z
theorem SimE.wipes {H : Hp} {L : List Addr} {ρ : AEnv} {σ : L2.St} (e : SimE C H L ρ σ) (ks : List Nat) : SimE C H L (wipeD ρ ks) (L2.wipe σ ks) :=
  ⟨by rw [wipeD_len, wipe_length]; exact e.1, fun i d h => by
    rw [wipe_out (wipeD_not h)]
    exact e.2 i d (wipeD_at ρ ks i d h)⟩
theorem sat_noex {α β : Type} {r : Rs α} {k : α → Store → Rs β} {A : β → Store → Prop} {B : Exn → Store → Prop} (h : (r.noex.bind k).sat A B) : r.sat (fun a S => (k a S).sat A B) (fun _ _ => False) := by
  cases r <;> exact h
/-! ### the object that is being filled -/
theorem Ext.poke {H H4 : Hp} {L L4 : List Addr} {p : Addr} {o o' : HO} (e : Ext H L H4 L4) (hp : H p = none) (h4 : H4 p = some o) : Ext H L (upd H4 p o') L4 :=
  ⟨e.pre, fun a q hn h => by rw [upd_ne (ne_of_none h hp)]; exact e.frame a q hn h, fun b xs h => by rw [upd_ne (ne_of_none h hp)]; exact e.tups b xs h, fun b q u h => by rw [upd_ne (ne_of_none h hp)]; exact e.frzs b q u h,
    fun a h => by
      by_cases q : a = p
      · subst q; exact hp
      · rw [upd_ne q] at h; exact e.dom a h⟩
theorem car_poke {H4 : Hp} {L4 F : List Addr} {p : Addr} {ho ho' : HO} (h4 : H4 p = some ho) (m : mutO ho = true) (hF : p ∉ F) : Car H4 L4 (upd H4 p ho') L4 F := by
  refine ⟨fun b xs h => ?_, fun b o u h => ?_, fun n a h => h, fun a ha o h => ?_⟩
  · have : b ≠ p := fun z => by subst z; rw [h4] at h; cases h; cases m
    rw [upd_ne this]; exact h
  · have : b ≠ p := fun z => by subst z; rw [h4] at h; cases h; cases m
    rw [upd_ne this]; exact h
  · have : a ≠ p := fun z => hF (z ▸ ha)
    rw [upd_ne this]; exact h
theorem SimS.poke {H4 : Hp} {L4 : List Addr} {S4 : Store} {p : Addr} {ho ho' : HO} (s : SimS C H4 L4 S4) (h4 : H4 p = some ho) (m : mutO ho = true) (hL : p ∉ L4) : SimS C (upd H4 p ho') L4 S4 := by
  refine ⟨s.len, s.nd, fun n c a h1 h2 => ?_⟩
  have k := s.cell n c a h1 h2
  have ne : a ≠ p := fun e => hL (e ▸ List.mem_of_getElem? h2)
  have car : Car H4 L4 (upd H4 p ho') L4 [] := car_poke h4 m (by simp)
  cases c with
  | frz xs =>
    obtain ⟨ob, vs, e1, e2⟩ := k
    exact ⟨ob, vs, by rw [upd_ne ne]; exact e1, e2.car car⟩
  | lst xs => obtain ⟨ho, e1, e2⟩ := k; exact ⟨ho, by rw [upd_ne ne]; exact e1, e2.car car⟩
  | dct xs => obtain ⟨ho, e1, e2⟩ := k; exact ⟨ho, by rw [upd_ne ne]; exact e1, e2.car car⟩
  | ins c xs => obtain ⟨ho, e1, e2⟩ := k; exact ⟨ho, by rw [upd_ne ne]; exact e1, e2.car car⟩
/-! ### the loop -/
def lcFin (C : Cxt) (R : XR) (E : XK) (H : Hp) (L : List Addr) (Q : VK) (zs : List D) (S2 : Store) : Prop :=
  (if zs.length ≤ sizeLine then Rs.ok (D.new (.lst zs)) S2 else .stuck).sat (OkW C H L Q) (ExW C R E H L)
theorem lc_good {wi : TI} {fi : AEnv → Store → Rs (List D × Option (Nat × List D))} {g : G} {sl own : List Nat} (hsl : ∀ i ∈ sl, i ∈ own)
    (gi : ∀ (σ : L2.St) (H : Hp) (L : List Addr) (ρ : AEnv) (S : Store) (Rq : L2.It → Hp → Prop), SimS C H L S → SimE C H L ρ σ → (fi ρ S).sat (OkI C H L Rq) (ExW C R E H L) → wi σ H Rq) :
    GoodE C R E (tLc wi (cG C sl (evalG g)) (cT C R E0' ft) (cE C R E0' fe) own) (fun ρ S => (fi ρ S).bind fun r S1 => (compF r.2 (evalG g) ft fe (wipeD ρ own) r.1 S1).noex.bind fun ys S2 => if ys.length ≤ sizeLine then .ok (.new (.lst ys)) S2 else .stuck) := by
  intro σ H L ρ S Q s e h
  have h0 := sat_bind h
  refine gi σ H L ρ S _ s e (sat_mono h0 (fun r S1 h1 J Wk H1 L1 F1 x1 s1 f1' wk w0 => ?_) fun _ _ z => z)
  obtain ⟨items, gu⟩ := r
  have h1 : (compF gu (evalG g) ft fe (wipeD ρ own) items S1).sat (fun ys S2 => lcFin C R E H L Q ys S2) (fun _ _ => False) := sat_noex h1
  intro Dn hDn
  have ew : SimE C H1 L1 (wipeD ρ own) (wipe σ own) := (e.ext x1).wipes own
  have nDL : Dn ∉ L1 := s1.notin hDn
  have nDF : Dn ∉ F1 := fun hm => by
    obtain ⟨o, ho⟩ := wk.trk _ _ _ _ w0 Dn hm
    rw [hDn] at ho; cases ho
  let W : Nat → Nat → Hp → Prop := fun i m H' => m + i = items.length ∧ ∃ (L' : List Addr) (S' : Store) (F' : List Addr) (ysD : List D) (acc : List V) (Fa : List Addr), Ext H L H' L' ∧ SimS C H' L' S' ∧ SimE C H' L' (wipeD ρ own) (wipe σ own) ∧ Wk i H' L' F' ∧ H' Dn = some (.lst acc) ∧ Reps C H' L' ysD acc Fa ∧
    (F' ++ Fa).Nodup ∧ Dn ∉ F' ++ Fa ∧ Dn ∉ L' ∧ (∀ a ∈ F' ++ Fa, a ∉ L') ∧ (∀ a ∈ F' ++ Fa, H a = none) ∧
    (compF gu (evalG g) ft fe (wipeD ρ own) (items.drop i) S').sat (fun ys S2 => lcFin C R E H L Q (ysD ++ ys) S2) (fun _ _ => False)
  have hDH : H Dn = none := x1.dom _ hDn
  refine ⟨W, ⟨items.length, rfl, L1, S1, F1, [], [], [], x1.trans (Ext.new hDn), s1.new hDn nDL, ew.ext (Ext.new hDn), ?_, upd_same, .nil, ?_, ?_, nDL, ?_, ?_, ?_⟩, ?_⟩
  · exact wk.car _ _ _ _ _ _ w0 ((Ext.new (L := L1) hDn).car f1'.out)
  · rw [List.append_nil]; exact f1'.nd
  · rw [List.append_nil]; exact nDF
  · rw [List.append_nil]; exact f1'.out
  · rw [List.append_nil]; exact f1'.new
  · exact h1
  rintro i m H2 ⟨hm, L2', S2, F2, ysD, acc, Fa, x2, s2, e2, wk2, hD2, ra, nd2, nD2, nDL2, ou2, nw2, h2⟩
  have gd : guardOk gu S2 = true := by
    cases hq : guardOk gu S2 with
    | true => rfl
    | false =>
      cases hd : items.drop i with
      | nil => rw [hd] at h2; simp only [compF, hq] at h2; exact h2.elim
      | cons d ds => rw [hd] at h2; simp only [compF, hq] at h2; exact h2.elim
  have nd2' := List.nodup_append.mp nd2
  cases hd : items.drop i with
  | nil =>
    rw [hd] at h2
    simp only [compF, gd, if_true] at h2
    have hlen : items.length ≤ i := by
      have := congrArg List.length hd
      simp at this; omega
    have h2 : lcFin C R E H L Q (ysD ++ []) S2 := h2
    rw [List.append_nil] at h2
    refine .inl ⟨wk.stop i H2 L2' S2 F2 wk2 s2 gd hlen, ?_⟩
    unfold lcFin at h2
    by_cases hz : ysD.length ≤ sizeLine
    · rw [if_pos hz] at h2
      refine h2 _ H2 L2' (Dn :: Fa) ⟨x2, s2, .new hD2 (.lst ra), fun a ha => ?_, ?_, fun a ha => ?_⟩
      · rcases List.mem_cons.mp ha with z | z
        · rw [z]; exact hDH
        · exact nw2 a (List.mem_append_right _ z)
      · exact List.nodup_cons.mpr ⟨fun z => nD2 (List.mem_append_right _ z), nd2'.2.1⟩
      · rcases List.mem_cons.mp ha with z | z
        · rw [z]; exact nDL2
        · exact ou2 a (List.mem_append_right _ z)
    · rw [if_neg hz] at h2; exact h2.elim
  | cons d ds =>
    rw [hd] at h2
    simp only [compF, gd, if_true] at h2
    have hi : items[i]? = some d := by
      have : (items.drop i)[0]? = some d := by rw [hd]; rfl
      rwa [List.getElem?_drop, Nat.add_zero] at this
    have hds : ds = items.drop (i + 1) := by
      have : (items.drop i).drop 1 = ds := by rw [hd]; rfl
      rw [← this, List.drop_drop]
    have hlt : i < items.length := (List.getElem?_eq_some_iff.mp hi).1
    have ouF : ∀ a ∈ F2, a ∉ L2' := fun a ha => ou2 a (List.mem_append_left _ ha)
    obtain ⟨go, yl⟩ := wk.go i H2 L2' S2 F2 d wk2 s2 gd nd2'.1 ouF hi
    refine .inr ⟨go, fun H' => W (i + 1) (m - 1) H', fun H' z => ⟨m - 1, by omega, z⟩, fun x H3 hy => ?_⟩
    obtain ⟨G, F3, x3, s3, r3, wk3, sub⟩ := yl x H3 hy
    have subG : ∀ a ∈ G, a ∈ F2 := fun a ha => sub.subset (List.mem_append_left _ ha)
    have subF : ∀ a ∈ F3, a ∈ F2 := fun a ha => sub.subset (List.mem_append_right _ ha)
    have ndGF := List.nodup_append.mp (nd2'.1.sublist sub)
    have h3 := sat_bind h2
    refine ⟨L2', S2, wipeD ρ own, d, G, s3, e2.ext x3, r3, ndGF.1, fun a ha => ouF a (subG a ha), ?_⟩
    refine sat_mono h3 (fun ρ3 S3 h3 σ3 M s4 e4 hM wip => ?_) fun _ _ z => z
    refine ⟨wipe_wip wip hsl, ?_⟩
    have x23 : Ext H L H3 L2' := x2.trans x3
    have x4 : Ext H L H3 (L2' ++ M) := by
      obtain ⟨N, en, nn⟩ := x23.pre
      refine ⟨⟨N ++ M, by rw [en, List.append_assoc], fun a ha => ?_⟩, x23.frame, x23.tups, x23.frzs, x23.dom⟩
      rcases List.mem_append.mp ha with q | q
      · exact nn a q
      · exact nw2 a (List.mem_append_left _ (subG a (hM a q)))
    have hD3 : H3 Dn = some (.lst acc) := x3.frame _ _ nDL2 hD2
    have nDM : Dn ∉ L2' ++ M := fun z => by
      rcases List.mem_append.mp z with q | q
      · exact nDL2 q
      · exact nD2 (List.mem_append_left _ (subG _ (hM _ q)))
    -- what stands besides the cells at H3
    have outF : ∀ a ∈ F3 ++ Fa, a ∉ L2' ++ M := fun a ha z => by
      rcases List.mem_append.mp ha with q | q
      · rcases List.mem_append.mp z with w | w
        · exact ouF a (subF a q) w
        · exact ndGF.2.2 a (hM a w) a q rfl
      · rcases List.mem_append.mp z with w | w
        · exact ou2 a (List.mem_append_right _ q) w
        · exact nd2'.2.2 a (subG a (hM a w)) a q rfl
    have ra3 : Reps C H3 (L2' ++ M) ysD acc Fa := (ra.car (x3.car fun a ha => ou2 a (List.mem_append_right _ ha))).car ⟨fun _ _ h => h, fun _ _ _ h => h, fun n a hn => by rw [List.getElem?_append_left (lt_of_get hn)]; exact hn, fun _ _ _ h => h⟩
    have wk4 : Wk (i + 1) H3 (L2' ++ M) F3 := wk.car _ _ _ _ _ _ wk3 ⟨fun _ _ h => h, fun _ _ _ h => h, fun n a hn => by rw [List.getElem?_append_left (lt_of_get hn)]; exact hn, fun _ _ _ h => h⟩
    have ndF : (F3 ++ Fa).Nodup := by
      rw [List.nodup_append]
      exact ⟨ndGF.2.1, nd2'.2.1, fun a ha b hb z => nd2'.2.2 a (subF a ha) b hb z⟩
    have nDF3 : Dn ∉ F3 ++ Fa := fun z => nD2 (by
      rcases List.mem_append.mp z with q | q
      · exact List.mem_append_left _ (subF _ q)
      · exact List.mem_append_right _ q)
    have nwF : ∀ a ∈ F3 ++ Fa, H a = none := fun a ha => by
      rcases List.mem_append.mp ha with q | q
      · exact nw2 a (List.mem_append_left _ (subF a q))
      · exact nw2 a (List.mem_append_right _ q)
    have trF : ∀ a ∈ F3 ++ Fa, ∃ o, H3 a = some o := fun a ha => by
      rcases List.mem_append.mp ha with q | q
      · exact wk.trk _ _ _ _ wk4 a q
      · exact ra3.trk a q
    have es4 : SimE C H3 (L2' ++ M) (wipeD ρ own) (wipe σ own) := (e2.ext x3).grow
    -- the test
    have h4 := sat_bind h3
    refine ⟨L2' ++ M, ρ3, S3, s4, e4, ?_⟩
    refine sat_mono h4 (fun b S5 h5 H5 L5 x5 s5 => ?_) fun _ _ z => z.elim
    have ouF5 : ∀ a ∈ F3 ++ Fa, a ∉ L5 := fun a ha => by
      obtain ⟨o, ho⟩ := trF a ha
      exact x5.out ho (outF a ha)
    have c5 : ∀ {Z : List Addr}, (∀ a ∈ Z, a ∈ F3 ++ Fa) → Car H3 (L2' ++ M) H5 L5 Z := fun hz => x5.car fun a ha => outF a (hz a ha)
    have hD5 : H5 Dn = some (.lst acc) := x5.frame _ _ nDM hD3
    have nDL5 : Dn ∉ L5 := x5.out hD3 nDM
    have x45 := x4.trans x5
    cases b with
    | false =>
      simp only [Bool.false_eq_true, if_false]
      have h5 : (compF gu (evalG g) ft fe (wipeD ρ own) ds S5).sat (fun ys S2 => lcFin C R E H L Q (ysD ++ ys) S2) (fun _ _ => False) := h5
      exact ⟨by omega, L5, S5, F3, ysD, acc, Fa, x45, s5, es4.ext x5, wk.car _ _ _ _ _ _ wk4 (c5 fun a ha => List.mem_append_left _ ha), hD5, ra3.car (c5 fun a ha => List.mem_append_right _ ha), ndF, nDF3, nDL5, ouF5, nwF, by rw [← hds]; exact h5⟩
    | true =>
      simp only [if_true]
      have h5 : ((fe ρ3 S5).bind fun y S3 => (compF gu (evalG g) ft fe (wipeD ρ own) ds S3).bind fun ys S4 => .ok (y :: ys) S4).sat (fun ys S2 => lcFin C R E H L Q (ysD ++ ys) S2) (fun _ _ => False) := h5
      have h6 := sat_bind h5
      refine ⟨L5, ρ3, S5, s5, e4.ext x5, ?_⟩
      refine sat_mono h6 (fun y S6 h7 v H6 L6 F6 p6 => ?_) fun _ _ z => z.elim
      have h8 := sat_bind h7
      have x6 := p6.ext
      have hD6 : H6 Dn = some (.lst acc) := x6.frame _ _ nDL5 hD5
      have nDL6 : Dn ∉ L6 := x6.out hD5 nDL5
      have x46 := x45.trans x6
      have tr5 : ∀ a ∈ F3 ++ Fa, ∃ o, H5 a = some o := fun a ha => by
        obtain ⟨o, ho⟩ := trF a ha
        exact ⟨o, x5.frame _ _ (outF a ha) ho⟩
      have ouF6 : ∀ a ∈ F3 ++ Fa, a ∉ L6 := fun a ha => by
        obtain ⟨o, ho⟩ := tr5 a ha
        exact x6.out ho (ouF5 a ha)
      have c6 : ∀ {Z : List Addr}, (∀ a ∈ Z, a ∈ F3 ++ Fa) → Car H5 L5 H6 L6 Z := fun hz => x6.car fun a ha => ouF5 a (hz a ha)
      have nDF6 : Dn ∉ F6 := fun z => by
        have := p6.fr.new _ z
        rw [hD5] at this; cases this
      have dis : ∀ a ∈ F3 ++ Fa, a ∉ F6 := fun a ha z => by
        obtain ⟨o, ho⟩ := tr5 a ha
        rw [p6.fr.new a z] at ho; cases ho
      have ck : ∀ {Z : List Addr}, Dn ∉ Z → Car H6 L6 (upd H6 Dn (.lst (acc ++ [v]))) L6 Z := fun hz => car_poke hD6 rfl hz
      have e6 : SimE C (upd H6 Dn (.lst (acc ++ [v]))) L6 (wipeD ρ own) (wipe σ own) :=
        ⟨es4.1, fun j dd hj => by
          obtain ⟨u, h1, h2⟩ := ((es4.ext x5).ext x6).2 j dd hj
          exact ⟨u, h1, h2.car (ck (by simp))⟩⟩
      have hlenA : acc.length = ysD.length := ra3.length.symm
      have hsz : acc.length < sizeLine := by
        cases hq : compF gu (evalG g) ft fe (wipeD ρ own) ds S6 with
        | ok zs S7 =>
          rw [hq] at h8
          have h8 : lcFin C R E H L Q (ysD ++ y :: zs) S7 := h8
          unfold lcFin at h8
          by_cases hz : (ysD ++ y :: zs).length ≤ sizeLine
          · rw [List.length_append, List.length_cons] at hz; omega
          · rw [if_neg hz] at h8; exact h8.elim
        | ex z S7 => rw [hq] at h8; exact h8.elim
        | stuck => rw [hq] at h8; exact h8.elim
      refine ⟨acc, hD6, hsz, by omega, L6, S6, F3, ysD ++ [y], acc ++ [v], Fa ++ F6, x46.poke hDH hD6, p6.sim.poke hD6 rfl nDL6, e6, ?_, upd_same, ?_, ?_, ?_, nDL6, ?_, ?_, ?_⟩
      · exact wk.car _ _ _ _ _ _ (wk.car _ _ _ _ _ _ (wk.car _ _ _ _ _ _ wk4 (c5 fun a ha => List.mem_append_left _ ha)) (c6 fun a ha => List.mem_append_left _ ha)) (ck fun z => nDF3 (List.mem_append_left _ z))
      · have q1 : Reps C (upd H6 Dn (.lst (acc ++ [v]))) L6 ysD acc Fa := ((ra3.car (c5 fun a ha => List.mem_append_right _ ha)).car (c6 fun a ha => List.mem_append_right _ ha)).car (ck fun z => nDF3 (List.mem_append_right _ z))
        have q2 : Rep C (upd H6 Dn (.lst (acc ++ [v]))) L6 y v F6 := p6.rep.car (ck nDF6)
        have q3 := q1.append (Reps.cons q2 .nil)
        simpa using q3
      · rw [← List.append_assoc, List.nodup_append]
        exact ⟨ndF, p6.fr.nd, fun a ha b hb z => dis a ha (z ▸ hb)⟩
      · rw [← List.append_assoc]
        intro z
        rcases List.mem_append.mp z with q | q
        · exact nDF3 q
        · exact nDF6 q
      · rw [← List.append_assoc]
        intro a ha
        rcases List.mem_append.mp ha with q | q
        · exact ouF6 a q
        · exact p6.fr.out a q
      · rw [← List.append_assoc]
        intro a ha
        rcases List.mem_append.mp ha with q | q
        · exact nwF a q
        · exact x45.dom a (p6.fr.new a q)
      · rw [← hds]
        refine sat_mono h8 (fun zs S7 z => ?_) fun _ _ z => z
        have z : lcFin C R E H L Q (ysD ++ y :: zs) S7 := z
        rw [List.append_assoc]; exact z
section
variable {scope : Scope} {own : List (Str × Nat)} {g : G} {sl : List Nat} {fi : AEnv → Store → Rs (List D × Option (Nat × List D))}
theorem ee_lc (hc : X.calm = true) (hN : X.N.Nodup) (hi : EI C R X E tg iter fi) (ok : BlkOk X.N X.env.scope scope own) (hsl : ∀ i ∈ sl, i ∈ own.map (·.2))
    (hg : ∀ (s : Shared) (H : Hp) (Ca : Addr) (cl : List (Str × Addr)) (fp : List Addr), EG C (X.blk s H scope (compEnvC scope cl Ca X.env) fp) tg sl (evalG g))
    (ht : ∀ (s : Shared) (H : Hp) (Ca : Addr) (cl : List (Str × Addr)) (fp : List Addr), EF C R (X.blk s H scope (compEnvC scope cl Ca X.env) fp) E0' ifs ft)
    (he : ∀ (s : Shared) (H : Hp) (Ca : Addr) (cl : List (Str × Addr)) (fp : List Addr), EE C R (X.blk s H scope (compEnvC scope cl Ca X.env) fp) E0' elt fe) (hs : ∀ x, foldedSetIterable iter X.env x = pure x) :
    EE C R X E (.ListComp elt [⟨tg, iter, ifs, 0⟩] scope pos) (fun ρ S => (fi ρ S).bind fun r S1 => (compF r.2 (evalG g) ft fe (wipeD ρ (own.map (·.2))) r.1 S1).noex.bind fun ys S2 => if ys.length ≤ sizeLine then .ok (.new (.lst ys)) S2 else .stuck) := by
  obtain ⟨wi, pi, gi⟩ := hi
  exact ⟨_, pe_lc hc hN pi ok (fun s H Ca cl fp => (hg s H Ca cl fp).canon) (fun s H Ca cl fp => (ht s H Ca cl fp).canon) (fun s H Ca cl fp => (he s H Ca cl fp).canon) hs, lc_good hsl gi⟩
end
end
end Nv
/-! Nv: shapes of the text. -/
namespace Nv
open PySem PySem.Spec PyProof.Rows L2
def xEName : PySem.Expr → Option ((Str) × (Pos))
  | .Name id pos => some (id, pos)
  | _ => none
theorem xEName_eq {e0 : PySem.Expr} {id : Str} {pos : Pos} (h : xEName e0 = some (id, pos)) : e0 = .Name id pos := by
  cases e0 <;> first | (cases h; rfl) | cases h
def xEConstant : PySem.Expr → Option ((Const) × (Nat) × (Pos))
  | .Constant v k pos => some (v, k, pos)
  | _ => none
theorem xEConstant_eq {e0 : PySem.Expr} {v : Const} {k : Nat} {pos : Pos} (h : xEConstant e0 = some (v, k, pos)) : e0 = .Constant v k pos := by
  cases e0 <;> first | (cases h; rfl) | cases h
def xETuple : PySem.Expr → Option ((List Expr) × (Nat) × (Pos))
  | .Tuple es k pos => some (es, k, pos)
  | _ => none
theorem xETuple_eq {e0 : PySem.Expr} {es : List Expr} {k : Nat} {pos : Pos} (h : xETuple e0 = some (es, k, pos)) : e0 = .Tuple es k pos := by
  cases e0 <;> first | (cases h; rfl) | cases h
def xEList : PySem.Expr → Option ((List Expr) × (Pos))
  | .List es pos => some (es, pos)
  | _ => none
theorem xEList_eq {e0 : PySem.Expr} {es : List Expr} {pos : Pos} (h : xEList e0 = some (es, pos)) : e0 = .List es pos := by
  cases e0 <;> first | (cases h; rfl) | cases h
def xEDict : PySem.Expr → Option ((List (Option Expr)) × (List Expr) × (Pos))
  | .Dict ks vs pos => some (ks, vs, pos)
  | _ => none
theorem xEDict_eq {e0 : PySem.Expr} {ks : List (Option Expr)} {vs : List Expr} {pos : Pos} (h : xEDict e0 = some (ks, vs, pos)) : e0 = .Dict ks vs pos := by
  cases e0 <;> first | (cases h; rfl) | cases h
def xEBinOp : PySem.Expr → Option ((Expr) × (Operator) × (Expr) × (Pos))
  | .BinOp a op b pos => some (a, op, b, pos)
  | _ => none
theorem xEBinOp_eq {e0 : PySem.Expr} {a : Expr} {op : Operator} {b : Expr} {pos : Pos} (h : xEBinOp e0 = some (a, op, b, pos)) : e0 = .BinOp a op b pos := by
  cases e0 <;> first | (cases h; rfl) | cases h
def xEUnaryOp : PySem.Expr → Option ((UnaryOp) × (Expr) × (Pos))
  | .UnaryOp op a pos => some (op, a, pos)
  | _ => none
theorem xEUnaryOp_eq {e0 : PySem.Expr} {op : UnaryOp} {a : Expr} {pos : Pos} (h : xEUnaryOp e0 = some (op, a, pos)) : e0 = .UnaryOp op a pos := by
  cases e0 <;> first | (cases h; rfl) | cases h
def xECompare : PySem.Expr → Option ((Expr) × (List CmpOp) × (List Expr) × (Pos))
  | .Compare a ops bs pos => some (a, ops, bs, pos)
  | _ => none
theorem xECompare_eq {e0 : PySem.Expr} {a : Expr} {ops : List CmpOp} {bs : List Expr} {pos : Pos} (h : xECompare e0 = some (a, ops, bs, pos)) : e0 = .Compare a ops bs pos := by
  cases e0 <;> first | (cases h; rfl) | cases h
def xEBoolOp : PySem.Expr → Option ((BoolOp) × (List Expr) × (Pos))
  | .BoolOp op es pos => some (op, es, pos)
  | _ => none
theorem xEBoolOp_eq {e0 : PySem.Expr} {op : BoolOp} {es : List Expr} {pos : Pos} (h : xEBoolOp e0 = some (op, es, pos)) : e0 = .BoolOp op es pos := by
  cases e0 <;> first | (cases h; rfl) | cases h
def xEIfExp : PySem.Expr → Option ((Expr) × (Expr) × (Expr) × (Pos))
  | .IfExp c a b pos => some (c, a, b, pos)
  | _ => none
theorem xEIfExp_eq {e0 : PySem.Expr} {c : Expr} {a : Expr} {b : Expr} {pos : Pos} (h : xEIfExp e0 = some (c, a, b, pos)) : e0 = .IfExp c a b pos := by
  cases e0 <;> first | (cases h; rfl) | cases h
def xESubscript : PySem.Expr → Option ((Expr) × (Expr) × (Pos))
  | .Subscript a i pos => some (a, i, pos)
  | _ => none
theorem xESubscript_eq {e0 : PySem.Expr} {a : Expr} {i : Expr} {pos : Pos} (h : xESubscript e0 = some (a, i, pos)) : e0 = .Subscript a i pos := by
  cases e0 <;> first | (cases h; rfl) | cases h
def xESlice : PySem.Expr → Option ((Option Expr) × (Option Expr) × (Option Expr) × (Pos))
  | .Slice lo hi st pos => some (lo, hi, st, pos)
  | _ => none
theorem xESlice_eq {e0 : PySem.Expr} {lo : Option Expr} {hi : Option Expr} {st : Option Expr} {pos : Pos} (h : xESlice e0 = some (lo, hi, st, pos)) : e0 = .Slice lo hi st pos := by
  cases e0 <;> first | (cases h; rfl) | cases h
def xEAttribute : PySem.Expr → Option ((Expr) × (Str) × (Pos))
  | .Attribute o nm pos => some (o, nm, pos)
  | _ => none
theorem xEAttribute_eq {e0 : PySem.Expr} {o : Expr} {nm : Str} {pos : Pos} (h : xEAttribute e0 = some (o, nm, pos)) : e0 = .Attribute o nm pos := by
  cases e0 <;> first | (cases h; rfl) | cases h
def xECall : PySem.Expr → Option ((Expr) × (List Expr) × (List Keyword) × (Pos))
  | .Call f es kws pos => some (f, es, kws, pos)
  | _ => none
theorem xECall_eq {e0 : PySem.Expr} {f : Expr} {es : List Expr} {kws : List Keyword} {pos : Pos} (h : xECall e0 = some (f, es, kws, pos)) : e0 = .Call f es kws pos := by
  cases e0 <;> first | (cases h; rfl) | cases h
def xEListComp : PySem.Expr → Option ((Expr) × (List Comprehension) × (Scope) × (Pos))
  | .ListComp elt gs scope pos => some (elt, gs, scope, pos)
  | _ => none
theorem xEListComp_eq {e0 : PySem.Expr} {elt : Expr} {gs : List Comprehension} {scope : Scope} {pos : Pos} (h : xEListComp e0 = some (elt, gs, scope, pos)) : e0 = .ListComp elt gs scope pos := by
  cases e0 <;> first | (cases h; rfl) | cases h
def xSReturn : PySem.Stmt → Option ((Option Expr) × (Pos))
  | .Return e pos => some (e, pos)
  | _ => none
theorem xSReturn_eq {e0 : PySem.Stmt} {e : Option Expr} {pos : Pos} (h : xSReturn e0 = some (e, pos)) : e0 = .Return e pos := by
  cases e0 <;> first | (cases h; rfl) | cases h
def xSAssign : PySem.Stmt → Option ((List Expr) × (Expr) × (Pos))
  | .Assign ts v pos => some (ts, v, pos)
  | _ => none
theorem xSAssign_eq {e0 : PySem.Stmt} {ts : List Expr} {v : Expr} {pos : Pos} (h : xSAssign e0 = some (ts, v, pos)) : e0 = .Assign ts v pos := by
  cases e0 <;> first | (cases h; rfl) | cases h
def xSFor : PySem.Stmt → Option ((Expr) × (Expr) × (List Stmt) × (List Stmt) × (Pos))
  | .For tg it b orelse pos => some (tg, it, b, orelse, pos)
  | _ => none
theorem xSFor_eq {e0 : PySem.Stmt} {tg : Expr} {it : Expr} {b : List Stmt} {orelse : List Stmt} {pos : Pos} (h : xSFor e0 = some (tg, it, b, orelse, pos)) : e0 = .For tg it b orelse pos := by
  cases e0 <;> first | (cases h; rfl) | cases h
def xSWhile : PySem.Stmt → Option ((Expr) × (List Stmt) × (List Stmt) × (Pos))
  | .While c b orelse pos => some (c, b, orelse, pos)
  | _ => none
theorem xSWhile_eq {e0 : PySem.Stmt} {c : Expr} {b : List Stmt} {orelse : List Stmt} {pos : Pos} (h : xSWhile e0 = some (c, b, orelse, pos)) : e0 = .While c b orelse pos := by
  cases e0 <;> first | (cases h; rfl) | cases h
def xSIf : PySem.Stmt → Option ((Expr) × (List Stmt) × (List Stmt) × (Pos))
  | .If c a b pos => some (c, a, b, pos)
  | _ => none
theorem xSIf_eq {e0 : PySem.Stmt} {c : Expr} {a : List Stmt} {b : List Stmt} {pos : Pos} (h : xSIf e0 = some (c, a, b, pos)) : e0 = .If c a b pos := by
  cases e0 <;> first | (cases h; rfl) | cases h
def xSExpr : PySem.Stmt → Option ((Expr) × (Pos))
  | .Expr e pos => some (e, pos)
  | _ => none
theorem xSExpr_eq {e0 : PySem.Stmt} {e : Expr} {pos : Pos} (h : xSExpr e0 = some (e, pos)) : e0 = .Expr e pos := by
  cases e0 <;> first | (cases h; rfl) | cases h
end Nv
/-! Nv: the text is the evaluator's. -/
namespace Nv
open PySem PySem.Spec PyProof.Rows L2
/-! ### names, small shapes -/
def visB (sc : Scope) (x : Str) : Bool := match sc.names.lookup x with
  | some .local => true
  | some .cell => true
  | some .free => true
  | _ => false
def locB (sc : Scope) (x : Str) : Bool := match sc.names.lookup x with
  | some .local => true
  | some .cell => true
  | _ => false
def stB (sc sc0 : Scope) (x : Str) : Bool := match sc.names.lookup x with
  | some .local => true
  | some .cell => (match sc0.names.lookup x with
    | some .cell => true
    | _ => false)
  | _ => false
def glB (sc : Scope) (x : Str) : Bool := match sc.names.lookup x with
  | some .globalImplicit => true
  | _ => false
def ndB (x : Str) : Bool := (x == ("__debug__" : Str)) == false
def ncB (x : Str) : Bool := (x == ("__classdict__" : Str)) == false
def nnB (x : Str) : Bool := decide (x ≠ "__name__")
def noSet : Expr → Bool
  | .Set .. => false
  | _ => true
def noSli : Expr → Bool
  | .Slice .. => false
  | _ => true
def notComp : Expr → Bool
  | .ListComp .. => false
  | .SetComp .. => false
  | .DictComp .. => false
  | _ => true
def notTup : Expr → Bool
  | .Tuple .. => false
  | _ => true
def tupT : Expr → Bool
  | .Tuple .. => true
  | _ => false
def abB : Expr → Bool
  | .Call (.Name _ _) [] [] _ => false
  | _ => true
def tstB : Expr → Bool
  | .IfExp .. => false
  | _ => true
def bltN : Blt → Str
  | .len => "len" | .sum => "sum" | .max => "max" | .min => "min" | .all => "all" | .any => "any" | .sorted => "sorted" | .list => "list" | .tuple => "tuple" | .dict => "dict" | .int => "int" | .str => "str"
def bltOk : Blt → Bool
  | .len => true | .sum => true | .max => true | .min => true | .all => true | .any => true | .list => true | .tuple => true
  | _ => false
def sameKw : List (Nat ⊕ D) → List (Nat ⊕ D) → Bool
  | [], [] => true
  | .inl a :: r, .inl b :: s => decide (a = b) && sameKw r s
  | .inr a :: r, .inr b :: s => sameD a b && sameKw r s
  | _, _ => false
def freeB (P : Prog) (x : Str) : Bool := P.free.contains x
def sizeB (xs ys : List Expr) : Bool := xs.length == ys.length
/-! ### targets -/
mutual
def mG (N : List Str) (sc sc0 : Scope) : G → Expr → Bool
  | .name i, e => match xEName e with
    | some (x, _) => decide (N[i]? = some x) && stB sc sc0 x
    | none => false
  | .tup gs, e => match xETuple e with
    | some (es, _, _) => mGs N sc sc0 gs es
    | none => false
def mGs (N : List Str) (sc sc0 : Scope) : List G → List Expr → Bool
  | [], es => match es with
    | [] => true
    | _ => false
  | g :: gs, es => match es with
    | e :: es => noStar1 e && mG N sc sc0 g e && mGs N sc sc0 gs es
    | [] => false
end
mutual
def mE (P : Prog) (N : List Str) : E → Scope → Expr → Bool
  | .var i, sc, e => match xEName e with
    | some (x, _) => decide (N[i]? = some x) && visB sc x && ndB x && ncB x
    | none => false
  | .non, _, e => match xEConstant e with
    | some (c, _, _) => decide (c = .none)
    | none => false
  | .bl b, _, e => match xEConstant e with
    | some (c, _, _) => decide (c = .bool b)
    | none => false
  | .int i, _, e => match xEConstant e with
    | some (c, _, _) => decide (c = .int i)
    | none => false
  | .str s, _, e => match xEConstant e with
    | some (c, _, _) => decide (c = .str s)
    | none => false
  | .glb k, sc, e => match xEName e, P.globs[k]? with
    | some (x, _), some g => decide (g.1 = x) && glB sc x && ndB x
    | _, _ => false
  | .tup es, sc, e => match xETuple e with
    | some (es', _, _) => mEs P N es sc es'
    | none => false
  | .lst es, sc, e => match xEList e with
    | some (es', _) => mEs P N es sc es'
    | none => false
  | .dct _ _, _, _ => false
  | .bin o a b, sc, e => match xEBinOp e with
    | some (a', q, b', _) => decide (q = bopP o) && mE P N a sc a' && mE P N b sc b'
    | none => false
  | .neg a, sc, e => match xEUnaryOp e with
    | some (q, a', _) => decide (q = .USub) && mE P N a sc a'
    | none => false
  | .cmp o a b, sc, e => match xECompare e with
    | some (a', [q], [b'], _) => decide (q = copP o) && noSet b' && mE P N a sc a' && mE P N b sc b'
    | _ => false
  | .chain o p a b c, sc, e => match xECompare e with
    | some (a', [q, r], [b', c'], _) => decide (q = copP o) && decide (r = copP p) && noSet c' && mE P N a sc a' && mE P N b sc b' && mE P N c sc c'
    | _ => false
  | .and es, sc, e => match xEBoolOp e with
    | some (q, es', _) => decide (q = .And) && mEs P N es sc es' && !es'.isEmpty && es'.all tstB
    | none => false
  | .or es, sc, e => match xEBoolOp e with
    | some (q, es', _) => decide (q = .Or) && mEs P N es sc es' && !es'.isEmpty && es'.all tstB
    | none => false
  | .not a, sc, e => match xEUnaryOp e with
    | some (q, a', _) => decide (q = .Not) && tstB a' && mE P N a sc a'
    | none => false
  | .ite c a b, sc, e => match xEIfExp e with
    | some (c', a', b', _) => tstB c' && mE P N c sc c' && mE P N a sc a' && mE P N b sc b'
    | none => false
  | .idx a i, sc, e => match xESubscript e with
    | some (a', i', _) => noSli i' && mE P N a sc a' && mE P N i sc i'
    | none => false
  | .slc a lo hi, sc, e => match xESubscript e with
    | some (a', i', _) => match xESlice i' with
      | some (lo', hi', none, _) => mE P N a sc a' && mO P N lo sc lo' && mO P N hi sc hi'
      | _ => false
    | none => false
  | .attr o f, sc, e => match xEAttribute e with
    | some (o', nm, _) => abB o' && decide (P.syms[f]? = some nm) && decide (f < P.nf) && mE P N o sc o'
    | none => false
  | .call f es, sc, e => match xECall e, P.fns[f]? with
    | some (g, es', [], _), some fn => match xEName g with
      | some (x, _) => decide (x = fn.name) && !(fn.name.cps.isEmpty) && glB sc x && mEs P N es sc es' && fn.pos
      | none => false
    | _, _ => false
  | .meth o c m f es, sc, e => match xECall e, P.cls[c]?, P.fns[f]? with
    | some (g, es', [], pos), some cl, some fn => match xEAttribute g with
      | some (o', nm, apos) => abB o' && decide (P.syms[m]? = some nm) && cl.meths.contains (m, f) && decide (es'.length < 30) && (apos.endLine == pos.line) && mE P N o sc o' && mEs P N es sc es' && fn.pos
      | none => false
    | _, _, _ => false
  | .make c es, sc, e => match xECall e, P.cls[c]? with
    | some (g, es', [], _), some cl => match xEName g with
      | some (x, _) => decide (x = cl.name) && (P.fns[cl.init]?).isSome && glB sc x && mEs P N es sc es' && (match P.fns[cl.init]? with
        | some fn => fn.pos
        | none => false)
      | none => false
    | _, _ => false
  | .makek c es ks names ds, sc, e => match xECall e, P.cls[c]? with
    | some (g, e0 :: es', kws, _), some cl => match xEName g with
      | some (x, _) => decide (x = cl.name) && (P.fns[cl.init]?).isSome && glB sc x && mEs P N es sc (e0 :: es') && mKs P N ks names sc kws && P.kws.any fun q => decide (q.1 = c) && decide (q.2.1 = es.length) && decide (q.2.2.1 = names) && sameKw q.2.2.2 ds
      | none => false
    | _, _ => false
  | .blt f es, sc, e => match xECall e with
    | some (g, e0 :: es', [], _) => match xEName g with
      | some (x, _) => bltOk f && decide (x = bltN f) && freeB P x && glB sc x && mEs P N es sc (e0 :: es')
      | none => false
    | _ => false
  | .bm m o es, sc, e => match xECall e with
    | some (g, es', [], pos) => match xEAttribute g with
      | some (o', nm, apos) => abB o' && (apos.endLine == pos.line) && mE P N o sc o' && mEs P N es sc es' && (match m with
        | .append => decide (nm = "append") && decide (es'.length = 1)
        | .pop => decide (nm = "pop") && es'.isEmpty
        | _ => false)
      | none => false
    | _ => false
  | .isi a t, sc, e => match xECall e with
    | some (g, [a', ty], [], _) => match xEName g, xEName ty with
      | some (x, _), some (y, _) => decide (x = "isinstance") && decide (y = istN t) && (match t with
        | .int => true
        | .bool => true
        | _ => false) && freeB P "isinstance" && freeB P (istN t) && glB sc "isinstance" && glB sc (istN t) && noStar1 a' && mE P N a sc a'
      | _, _ => false
    | _ => false
  | .comp own g it ifs elt, sc, e => match xEListComp e with
    | some (elt', [⟨tg, iter, ifs', asy⟩], scope, _) => decide (asy = 0) && blkC N sc scope own && mI P N it sc tg iter && mG N (relS scope sc) scope g tg && (g.slots.all fun i => (own.map (·.2)).contains i) &&
        mEs P N ifs (relS scope sc) ifs' && decide (ifs'.length ≤ 1) && ifs'.all tstB && mE P N elt (relS scope sc) elt'
    | _ => false
termination_by structural e => e
def mEs (P : Prog) (N : List Str) : List E → Scope → List Expr → Bool
  | [], _, es => match es with
    | [] => true
    | _ => false
  | a :: as, sc, es => match es with
    | e :: es => noStar1 e && mE P N a sc e && mEs P N as sc es
    | [] => false
termination_by structural e => e
def mKs (P : Prog) (N : List Str) : List E → List Str → Scope → List Keyword → Bool
  | [], ns, _, kws => match ns, kws with
    | [], [] => true
    | _, _ => false
  | a :: as, ns, sc, kws => match ns, kws with
    | n :: ns, ⟨nm, e, _⟩ :: kws => decide (nm = some n) && mE P N a sc e && mKs P N as ns sc kws
    | _, _ => false
termination_by structural e => e
def mO (P : Prog) (N : List Str) : Option E → Scope → Option Expr → Bool
  | none, _, o => match o with
    | none => true
    | some _ => false
  | some a, sc, o => match o with
    | some e => mE P N a sc e
    | none => false
termination_by structural e => e
def mI (P : Prog) (N : List Str) : Nv.It → Scope → Expr → Expr → Bool
  | .of a, sc, _, e => noSet e && mE P N a sc e
  | .range es, sc, _, e => match xECall e with
    | some (g, es', [], _) => match xEName g with
      | some (x, _) => decide (x = "range") && freeB P "range" && glB sc "range" && mEs P N es sc es' && (decide (es'.length = 1) || decide (es'.length = 2))
      | none => false
    | _ => false
  | .enum a, sc, tg, e => match xECall e with
    | some (g, [e'], [], _) => match xEName g with
      | some (x, _) => decide (x = "enumerate") && freeB P "enumerate" && glB sc "enumerate" && tupT tg && noStar1 e' && mE P N a sc e'
      | none => false
    | _ => false
  | .zip _ _, _, _, _ => false
  | .rev _, _, _, _ => false
termination_by structural e => e
end
end Nv
/-! Nv: where a text may be read; each expression is read as its evaluator says. -/
namespace Nv
open PySem PySem.Spec PyProof.Rows L2
def R0 : XR := fun _ _ _ _ => False
/-! ### what may be called -/
structure FnF (C : Cxt) (P : Program) (w : World) (K : PySem.W.Frag) (mg : Str → Option Value) (base : Heap) (A : Around) (nm : Str) (n : Nat) (g : List D → Store → Rs D) : Prop where
  nd : (nm == ("__debug__" : Str)) = false
  ex : ∃ (k : Nat) (f : Addr) (fd : FuncData) (ps : List Str), FnOk P w K mg base CX0 k f fd ps (spF C R0 n g) ∧ Room k A ∧ mg nm = some (.ref f) ∧ PySem.W.keepIn K (.ref f) = true ∧ Binds K fd ps []
theorem FnF.c {C : Cxt} {X : Cx} {E : XK} {nm : Str} {n : Nat} {g : List D → Store → Rs D} (h : FnF C X.prog X.w X.K X.mg X.base X.A nm n g) : FnC C R0 X E nm n g :=
  ⟨h.nd, let ⟨k, f, fd, ps, h1, h2, h3, h4, h5⟩ := h.ex; ⟨CX0, k, f, fd, ps, h1, h2, h3, h4, h5, pass0⟩⟩
structure MtF (C : Cxt) (P : Program) (w : World) (K : PySem.W.Frag) (mg : Str → Option Value) (base : Heap) (A : Around) (c : Nat) (m : Str) (n : Nat) (g : List D → Store → Rs D) : Prop where
  cl : Cls K (C.CA c)
  ex : ∃ (k : Nat) (f : Addr) (fd : FuncData) (ps : List Str), FnOk P w K mg base CX0 k f fd ps (spF C R0 n g) ∧ Room k A ∧ Meth K (C.CA c) m f ∧ Binds K fd ps []
theorem MtF.c {C : Cxt} {X : Cx} {E : XK} {c : Nat} {m : Str} {n : Nat} {g : List D → Store → Rs D} (h : MtF C X.prog X.w X.K X.mg X.base X.A c m n g) : MtC C R0 X E c m n g :=
  ⟨h.cl, let ⟨k, f, fd, ps, h1, h2, h3, h4⟩ := h.ex; ⟨CX0, k, f, fd, ps, h1, h2, h3, h4, pass0⟩⟩
structure MkF (C : Cxt) (P : Program) (w : World) (K : PySem.W.Frag) (mg : Str → Option Value) (base : Heap) (A : Around) (nm : Str) (c : Nat) (n : Nat) (g : List D → Store → Rs D) : Prop where
  nd : (nm == ("__debug__" : Str)) = false
  lt : c < C.nc
  hmg : mg nm = some (.ref (C.CA c))
  ex : ∃ (k : Nat) (f : Addr) (fd : FuncData) (ps : List Str), FnOk P w K mg base CX0 k f fd ps (spF C R0 n g) ∧ Room (k + 1) A ∧ Mk K (C.CA c) f ∧ Binds K fd ps []
theorem MkF.c {C : Cxt} {X : Cx} {E : XK} {nm : Str} {c : Nat} {n : Nat} {g : List D → Store → Rs D} (h : MkF C X.prog X.w X.K X.mg X.base X.A nm c n g) : MkC C R0 X E nm c n g :=
  ⟨h.nd, h.lt, h.hmg, let ⟨k, f, fd, ps, h1, h2, h3, h4⟩ := h.ex; ⟨CX0, k, f, fd, ps, h1, h2, h3, h4, pass0⟩⟩
structure MkKF (C : Cxt) (P : Program) (w : World) (K : PySem.W.Frag) (mg : Str → Option Value) (base : Heap) (A : Around) (nm : Str) (c : Nat) (n : Nat) (g : List D → Store → Rs D) (np : Nat) (ks : List Str) (ds : List (Nat ⊕ D)) : Prop where
  nd : (nm == ("__debug__" : Str)) = false
  lt : c < C.nc
  hmg : mg nm = some (.ref (C.CA c))
  ex : ∃ (k : Nat) (f : Addr) (fd : FuncData) (ps : List Str) (gV : List V → List V → List V) (gu : List Value → List Value → List Value), FnOk P w K mg base CX0 k f fd ps (spF C R0 n g) ∧ Room (k + 1) A ∧ Mk K (C.CA c) f ∧
    KBn K fd ps (np + 1) ks gu gV ∧ ∀ (H : Hp) (L : List Addr) (xs ys : List D) (vs zs : List V), xs.length = np → ys.length = ks.length → Reps C H L xs vs [] → Reps C H L ys zs [] → ∀ v, ∃ ws, gV (v :: vs) zs = v :: ws ∧ Reps C H L (xs ++ kwD ds ys) ws []
theorem MkKF.c {C : Cxt} {X : Cx} {E : XK} {nm : Str} {c : Nat} {n : Nat} {g : List D → Store → Rs D} {np : Nat} {ks : List Str} {ds : List (Nat ⊕ D)} (h : MkKF C X.prog X.w X.K X.mg X.base X.A nm c n g np ks ds) : MkK C R0 X E nm c n g np ks ds :=
  ⟨h.nd, h.lt, h.hmg, let ⟨k, f, fd, ps, gV, gu, h1, h2, h3, h4, h5⟩ := h.ex; ⟨CX0, k, f, fd, ps, gV, gu, h1, h2, h3, h4, pass0, h5⟩⟩
/-- the facts of the program -/
structure Gw (C : Cxt) (P : Prog) (M : Sm) (prog : Program) (w : World) (K : PySem.W.Frag) (mg : Str → Option Value) (base : Heap) (A : Around) : Prop where
  hK : K = C.K
  un : A.units + 64 < cLine
  fns : ∀ f fn, P.fns[f]? = some fn → fn.name.cps.isEmpty = false → fn.pos = true → FnF C prog w K mg base A fn.name fn.ps (M.call f)
  flen : ∀ f fn, P.fns[f]? = some fn → ∀ ds : List D, ds.length ≠ fn.ps → ∀ S, M.call f ds S = .stuck
  ilen : ∀ f fn, P.fns[f]? = some fn → ∀ ds : List D, ds.length ≠ fn.ps → ∀ S, M.init f ds S = .stuck
  mks : ∀ c cl fn, P.cls[c]? = some cl → P.fns[cl.init]? = some fn → fn.pos = true → MkF C prog w K mg base A cl.name c fn.ps (M.init cl.init)
  mkks : ∀ c cl fn np ks ds, P.cls[c]? = some cl → P.fns[cl.init]? = some fn → (c, np, ks, ds) ∈ P.kws → MkKF C prog w K mg base A cl.name c fn.ps (M.init cl.init) np ks ds
  mts : ∀ c cl m f fn nm, P.cls[c]? = some cl → (m, f) ∈ cl.meths → P.fns[f]? = some fn → fn.pos = true → P.syms[m]? = some nm → MtF C prog w K mg base A c nm fn.ps (M.call f)
  globs : ∀ (k : Nat) (g : Str × D), P.globs[k]? = some g → ∃ v u, mg g.1 = some u ∧ RelV v u ∧ ∀ H L, Rep C H L g.2 v []
  free : ∀ x ∈ P.free, mg x = none
  sym : ∀ k nm, P.syms[k]? = some nm → C.sym k = nm
  inj : ∀ f g, C.sym f = C.sym g → f = g
  cls : ∀ c, c < C.nc → Cls K (C.CA c)
  noat : ∀ f nm, P.syms[f]? = some nm → f < P.nf → ∀ c, c < C.nc → NoAttr K (C.CA c) nm
/-- a context -/
structure Cok (C : Cxt) (P : Prog) (M : Sm) (N : List Str) (sc sc0 : Scope) (X : Cx) : Prop where
  gw : Gw C P M X.prog X.w X.K X.mg X.base X.A
  hN : X.N = N
  nd : N.Nodup
  hsc : X.env.scope = sc
  calm : X.calm = true
  fn : ∀ x, sc0.names.lookup x = some .cell → X.fn x = true
  never : ∀ e s, ¬ X.xe e s
section
variable {C : Cxt} {P : Prog} {M : Sm} {N : List Str} {sc sc0 : Scope} {X : Cx} {pos : Pos}
theorem Cok.gl (G : Cok C P M N sc sc0 X) {x : Str} (h : glB sc x = true) : Gl X x := by
  unfold Gl Env.kindOf
  rw [G.hsc]
  unfold glB at h
  split at h
  · assumption
  · cases h
theorem Cok.vis (G : Cok C P M N sc sc0 X) {x : Str} (h : visB sc x = true) : L2.Vis X.env.scope x := by
  unfold L2.Vis
  rw [G.hsc]
  unfold visB at h
  split at h
  · exact .inl (by assumption)
  · exact .inr (.inl (by assumption))
  · exact .inr (.inr (by assumption))
  · cases h
theorem Cok.st (G : Cok C P M N sc sc0 X) {x : Str} (h : stB sc sc0 x = true) : L2.Loc X.env.scope x ∧ (X.fn x = true ∨ X.env.scope.names.lookup x = some .local) := by
  unfold L2.Loc
  rw [G.hsc]
  unfold stB at h
  split at h
  · rename_i q; exact ⟨.inl q, .inr q⟩
  · rename_i q
    split at h
    · rename_i q2; exact ⟨.inr q, .inl (G.fn x q2)⟩
    · cases h
  · cases h
theorem Cok.blk (G : Cok C P M N sc sc0 X) (s : Shared) (H : Hp) (scope : Scope) (Ca : Addr) (cl : List (Str × Addr)) (fp : List Addr) : Cok C P M N (relS scope sc) scope (X.blk s H scope (compEnvC scope cl Ca X.env) fp) where
  gw := G.gw
  hN := G.hN
  nd := G.nd
  hsc := by
    have := G.hsc
    subst this
    rfl
  calm := G.calm
  fn := fun x h => by
    show (scope.names.lookup x == some .cell) = true
    rw [h]; rfl
  never := fun _ _ z => z
theorem abB_ok {o : Expr} (h : abB o = true) (nm : Str) (env : Env) (whole : Sem Value) : attributeBase o nm env whole = whole := by
  unfold attributeBase
  split
  · cases h
  · rfl
theorem noSet_ne {e : Expr} (h : noSet e = true) : ∀ es k p, e ≠ .Set es k p := fun es k p q => by subst q; cases h
theorem noSli_ne {e : Expr} (h : noSli e = true) : ∀ l u s p, e ≠ .Slice l u s p := fun l u s p q => by subst q; cases h
theorem noSet_fold {e : Expr} {env : Env} (h : noSet e = true) (x : Value) : foldedSetIterable e env x = pure x := by
  cases e <;> first | rfl | cases h
theorem beqF {a b : Str} (h : ((a == b) == false) = true) : (a == b) = false := by
  cases q : a == b with
  | false => rfl
  | true => rw [q] at h; cases h
/-! ### targets -/
theorem assignEach_ns {e : Expr} {es : List Expr} {env : Env} (h : noStar1 e = true) : assignEach (e :: es) env = (false, assign e env) :: assignEach es env := by
  cases e <;> first
    | rfl
    | cases h
mutual
theorem mG_ok (G : Cok C P M N sc sc0 X) : ∀ (g : Nv.G) (e : Expr), mG N sc sc0 g e = true → EG C X e g.slots (evalG g)
  | .name i, e, h => by
    unfold mG at h
    cases q : xEName e with
    | none => rw [q] at h; cases h
    | some r =>
      obtain ⟨x, pos⟩ := r
      rw [q] at h
      simp only [Bool.and_eq_true, decide_eq_true_eq] at h
      obtain ⟨h1, h2⟩ := h
      have := xEName_eq q
      subst this
      exact eg_name (by rw [G.hN]; exact G.nd) (by rw [G.hN]; exact h1) (G.st h2).1 (G.st h2).2
  | .tup gs, e, h => by
    unfold mG at h
    cases q : xETuple e with
    | none => rw [q] at h; cases h
    | some r =>
      obtain ⟨es, k, pos⟩ := r
      rw [q] at h
      have := xETuple_eq q
      subst this
      obtain ⟨r1, r2, r3⟩ := mGs_ok G gs es h
      exact eg_tup (n := gs.length) G.gw.hK G.calm r1 (fun xs ρ S ρ' S' z => evalGs_len z) r2 r3
theorem mGs_ok (G : Cok C P M N sc sc0 X) : ∀ (g : List Nv.G) (e : List Expr), mGs N sc sc0 g e = true → EGs C X e (slotsL g) (evalGs g) ∧ (assignEach e X.env).length = g.length ∧ (assignEach e X.env).findIdx? (·.1) = none
  | [], e, h => by
    cases e with
    | nil => exact ⟨egs_nil, rfl, rfl⟩
    | cons e es => cases h
  | g :: gs, e, h => by
    cases e with
    | nil => cases h
    | cons e es =>
      have h' : (noStar1 e && mG N sc sc0 g e && mGs N sc sc0 gs es) = true := h
      simp only [Bool.and_eq_true] at h'
      obtain ⟨⟨h1, h2⟩, h3⟩ := h'
      obtain ⟨r1, r2, r3⟩ := mGs_ok G gs es h3
      have as := assignEach_ns (es := es) (env := X.env) h1
      refine ⟨egs_cons (mG_ok G g e h2) r1 (by rw [as]; rfl), by rw [as, List.length_cons, r2]; rfl, ?_⟩
      rw [as, List.findIdx?_cons, r3]
      rfl
end
end
end Nv
/-! Nv: each expression is read as its evaluator says. -/
namespace Nv
open PySem PySem.Spec PyProof.Rows L2
section
variable {C : Cxt} {P : Prog} {M : Sm} {N : List Str} {sc sc0 : Scope} {X : Cx} {pos : Pos}
abbrev EEb (C : Cxt) (P : Prog) (M : Sm) (X : Cx) (e : E) (e' : Expr) : Prop := EE C R0 X E0' e' (evalE P M e) ∧ (tstB e' = true → ET C R0 X E0' e' (evalE P M e))
def EEsP (C : Cxt) (P : Prog) (M : Sm) (X : Cx) : List E → List Expr → Prop
  | [], es => es = []
  | a :: as, es => match es with
    | [] => False
    | e :: es => noStar1 e = true ∧ EEb C P M X a e ∧ EEsP C P M X as es
theorem EEsP.ns : ∀ {es : List E} {es' : List Expr}, EEsP C P M X es es' → noStar es' = true
  | [], es', h => by cases h; rfl
  | a :: as, [], h => h.elim
  | a :: as, e :: es, h => by
    unfold noStar
    rw [List.all_cons, h.1]
    exact (EEsP.ns h.2.2)
theorem EEsP.ea : ∀ {es : List E} {es' : List Expr}, EEsP C P M X es es' → EA C R0 X E0' es' (evalEs P M es)
  | [], es', h => by cases h; exact ea_nil
  | a :: as, [], h => h.elim
  | a :: as, e :: es, h => ea_cons h.2.1.1 (EEsP.ea h.2.2) (starEach_ns h.1)
theorem EEsP.len : ∀ {es : List E} {es' : List Expr}, EEsP C P M X es es' → es.length = es'.length
  | [], es', h => by cases h; rfl
  | a :: as, [], h => h.elim
  | a :: as, e :: es, h => congrArg Nat.succ (EEsP.len h.2.2)
theorem evalEs_len : ∀ {es : List E} {ρ : AEnv} {S : Store} {xs : List D} {S1 : Store}, evalEs P M es ρ S = .ok xs S1 → xs.length = es.length
  | [], ρ, S, xs, S1, h => by cases h; rfl
  | e :: es, ρ, S, xs, S1, h => by
    obtain ⟨x, S2, h1, h2⟩ := Rs.bind_ok (show ((evalE P M e ρ S).bind fun x S1 => (evalEs P M es ρ S1).bind fun xs S2 => Rs.ok (x :: xs) S2) = _ from h)
    obtain ⟨ys, S3, h3, h4⟩ := Rs.bind_ok h2
    cases h4
    rw [List.length_cons, List.length_cons, evalEs_len h3]
theorem EEsP.and (hK : X.K = C.K) : ∀ {es : List E} {es' : List Expr}, EEsP C P M X es es' → es' ≠ [] → es'.all tstB = true → EE C R0 X E0' (.BoolOp .And es' pos) (evalAnd P M es) ∧ EW C R0 X E0' (.BoolOp .And es' pos) (evalAnd P M es)
  | [], es', h, ne, _ => by cases h; exact absurd rfl ne
  | a :: as, [], h, ne, _ => h.elim
  | [a], [e], h, ne, ht => by
    simp only [List.all_cons, List.all_nil, Bool.and_true] at ht
    exact ⟨ee_one h.2.1.1, ew_and1 (h.2.1.2 ht)⟩
  | [a], e :: e2 :: es, h, ne, ht => nomatch h.2.2
  | a :: b :: as, [e], h, ne, ht => h.2.2.elim
  | a :: b :: as, e :: e2 :: es, h, ne, ht => by
    rw [List.all_cons, Bool.and_eq_true] at ht
    obtain ⟨i1, i2⟩ := EEsP.and hK (es := b :: as) h.2.2 (by simp) ht.2
    exact ⟨ee_and hK h.2.1.1 i1, ew_and (h.2.1.2 ht.1) i2⟩
theorem EEsP.or (hK : X.K = C.K) : ∀ {es : List E} {es' : List Expr}, EEsP C P M X es es' → es' ≠ [] → es'.all tstB = true → EE C R0 X E0' (.BoolOp .Or es' pos) (evalOr P M es) ∧ EW C R0 X E0' (.BoolOp .Or es' pos) (evalOr P M es)
  | [], es', h, ne, _ => by cases h; exact absurd rfl ne
  | a :: as, [], h, ne, _ => h.elim
  | [a], [e], h, ne, ht => by
    simp only [List.all_cons, List.all_nil, Bool.and_true] at ht
    exact ⟨ee_one h.2.1.1, ew_or1 (h.2.1.2 ht)⟩
  | [a], e :: e2 :: es, h, ne, ht => nomatch h.2.2
  | a :: b :: as, [e], h, ne, ht => h.2.2.elim
  | a :: b :: as, e :: e2 :: es, h, ne, ht => by
    rw [List.all_cons, Bool.and_eq_true] at ht
    obtain ⟨i1, i2⟩ := EEsP.or hK (es := b :: as) h.2.2 (by simp) ht.2
    exact ⟨ee_or hK h.2.1.1 i1, ew_or (h.2.1.2 ht.1) i2⟩
theorem EEsP.nil0 {es : List E} {es' : List Expr} (h : EEsP C P M X es es') (q : es' = []) : evalEs P M es = fun _ S => .ok [] S := by
  subst q
  cases es with
  | nil => rfl
  | cons a as => exact h.elim
theorem of_plain (hK : X.K = C.K) {e : E} {e' : Expr} (hp : plainT e' = true) (h : EE C R0 X E0' e' (evalE P M e)) : EEb C P M X e e' := ⟨h, fun _ => et_plain hK hp h⟩
theorem nn_lit (s : Str) (h : nnB s = true) : s ≠ "__name__" := of_decide_eq_true h
theorem blt_ok (G : Cok C P M N sc sc0 X) {f : Blt} {es : List E} {e0 : Expr} {es' : List Expr} {p0 : Pos} (ok : bltOk f = true) (hf : P.free.contains (bltN f) = true) (hg : glB sc (bltN f) = true) (h : EEsP C P M X es (e0 :: es')) :
    EE C R0 X E0' (.Call (.Name (bltN f) p0) (e0 :: es') [] pos) (evalE P M (.blt f es)) := by
  have hm : X.mg (bltN f) = none := G.gw.free _ (by simpa using hf)
  have hK := G.gw.hK
  cases f <;> first
    | (cases ok; done)
    | exact ee_blt1 (hK ▸ call_len) good_len (G.gl hg) hm (by decide +kernel) (by decide +kernel) (by decide +kernel) h.ns h.ea
    | exact ee_blt1 (hK ▸ cr_sum G.calm) good_sum (G.gl hg) hm (by decide +kernel) (by decide +kernel) (by decide +kernel) h.ns h.ea
    | exact ee_blt1 (hK ▸ cr_all G.calm) good_all (G.gl hg) hm (by decide +kernel) (by decide +kernel) (by decide +kernel) h.ns h.ea
    | exact ee_blt1 (hK ▸ cr_all) good_all (G.gl hg) hm (by decide +kernel) (by decide +kernel) (by decide +kernel) h.ns h.ea
    | exact ee_blt1 (hK ▸ cr_any) good_any (G.gl hg) hm (by decide +kernel) (by decide +kernel) (by decide +kernel) h.ns h.ea
    | exact ee_blt1 (hK ▸ cr_any G.calm) good_any (G.gl hg) hm (by decide +kernel) (by decide +kernel) (by decide +kernel) h.ns h.ea
    | exact ee_bltT (T := "list") (hK ▸ call_list_of) good_list (G.gl hg) hm (by decide +kernel) (by decide +kernel) (by decide +kernel) h.ns h.ea
    | exact ee_bltT (T := "tuple") (hK ▸ call_tuple_of) good_tuple (G.gl hg) hm (by decide +kernel) (by decide +kernel) (by decide +kernel) h.ns h.ea
    | exact ee_blt1 (call_max2 G.calm) good_max (G.gl hg) hm (by decide +kernel) (by decide +kernel) (by decide +kernel) h.ns h.ea
    | exact ee_blt1 (call_min2 G.calm) good_min (G.gl hg) hm (by decide +kernel) (by decide +kernel) (by decide +kernel) h.ns h.ea
end
end Nv
/-! Nv: each expression is read as its evaluator says. -/
namespace Nv
open PySem PySem.Spec PyProof.Rows L2
section
variable {C : Cxt} {P : Prog} {M : Sm} {N : List Str}
theorem sameKw_eq : ∀ {a b : List (Nat ⊕ D)}, sameKw a b = true → a = b
  | [], [], _ => rfl
  | .inl a :: r, .inl b :: s, h => by
    have h' : (decide (a = b) && sameKw r s) = true := h
    rw [Bool.and_eq_true] at h'
    rw [of_decide_eq_true h'.1, sameKw_eq h'.2]
  | .inr a :: r, .inr b :: s, h => by
    have h' : (sameD a b && sameKw r s) = true := h
    rw [Bool.and_eq_true] at h'
    rw [sameD_eq _ _ h'.1, sameKw_eq h'.2]
  | [], _ :: _, h => by cases h
  | .inl _ :: _, [], h => by cases h
  | .inr _ :: _, [], h => by cases h
  | .inl _ :: _, .inr _ :: _, h => by cases h
  | .inr _ :: _, .inl _ :: _, h => by cases h
mutual
theorem mE_ok : ∀ (e : E) {X : Cx} {sc sc0 : Scope} (G : Cok C P M N sc sc0 X) (e' : Expr), mE P N e sc e' = true → EEb C P M X e e'
  | .var i, X, sc, sc0, G, e', h => by
    unfold mE at h
    cases q : xEName e' with
    | none => rw [q] at h; cases h
    | some r =>
      obtain ⟨x, pos⟩ := r
      rw [q] at h
      simp only [Bool.and_eq_true, decide_eq_true_eq] at h
      obtain ⟨⟨⟨h1, h2⟩, h3⟩, h4⟩ := h
      have := xEName_eq q
      subst this
      exact of_plain G.gw.hK rfl (ee_var (by rw [G.hN]; exact h1) (G.vis h2) (beqF h3) (beqF h4))
  | .non, X, sc, sc0, G, e', h => by
    unfold mE at h
    cases q : xEConstant e' with
    | none => rw [q] at h; cases h
    | some r =>
      obtain ⟨c, k, pos⟩ := r
      rw [q] at h
      have h := of_decide_eq_true h
      have := xEConstant_eq q
      subst this; subst h
      exact of_plain G.gw.hK rfl (ee_c pe_non fun _ _ => .non)
  | .bl b, X, sc, sc0, G, e', h => by
    unfold mE at h
    cases q : xEConstant e' with
    | none => rw [q] at h; cases h
    | some r =>
      obtain ⟨c, k, pos⟩ := r
      rw [q] at h
      have h := of_decide_eq_true h
      have := xEConstant_eq q
      subst this; subst h
      exact of_plain G.gw.hK rfl (ee_c pe_bl fun _ _ => .bl b)
  | .int i, X, sc, sc0, G, e', h => by
    unfold mE at h
    cases q : xEConstant e' with
    | none => rw [q] at h; cases h
    | some r =>
      obtain ⟨c, k, pos⟩ := r
      rw [q] at h
      have h := of_decide_eq_true h
      have := xEConstant_eq q
      subst this; subst h
      exact of_plain G.gw.hK rfl (ee_c pe_int fun _ _ => .int i)
  | .str s, X, sc, sc0, G, e', h => by
    unfold mE at h
    cases q : xEConstant e' with
    | none => rw [q] at h; cases h
    | some r =>
      obtain ⟨c, k, pos⟩ := r
      rw [q] at h
      have h := of_decide_eq_true h
      have := xEConstant_eq q
      subst this; subst h
      exact of_plain G.gw.hK rfl (ee_c pe_str fun _ _ => .str s)
  | .glb k, X, sc, sc0, G, e', h => by
    unfold mE at h
    cases q : xEName e' with
    | none => rw [q] at h; cases h
    | some r =>
      obtain ⟨x, pos⟩ := r
      cases q2 : P.globs[k]? with
      | none => rw [q, q2] at h; cases h
      | some g =>
        rw [q, q2] at h
        simp only [Bool.and_eq_true, decide_eq_true_eq] at h
        obtain ⟨⟨h1, h2⟩, h3⟩ := h
        have := xEName_eq q
        subst this
        obtain ⟨v, u, m1, m2, m3⟩ := G.gw.globs k g q2
        have e : evalE P M (.glb k) = fun _ S => Rs.ok g.2 S := by
          funext ρ S
          show (match P.globs[k]? with
            | some g => Rs.ok g.2 S
            | none => Rs.stuck) = _
          rw [q2]
        refine of_plain G.gw.hK rfl ?_
        rw [e]
        exact ee_glob (G.gl h2) (h1 ▸ m1) m2 (beqF h3) m3
  | .tup es, X, sc, sc0, G, e', h => by
    unfold mE at h
    cases q : xETuple e' with
    | none => rw [q] at h; cases h
    | some r =>
      obtain ⟨es', k, pos⟩ := r
      rw [q] at h
      have := xETuple_eq q
      subst this
      exact of_plain G.gw.hK rfl (ee_tup (mEs_ok es G es' h).ea)
  | .lst es, X, sc, sc0, G, e', h => by
    unfold mE at h
    cases q : xEList e' with
    | none => rw [q] at h; cases h
    | some r =>
      obtain ⟨es', pos⟩ := r
      rw [q] at h
      have := xEList_eq q
      subst this
      exact of_plain G.gw.hK rfl (ee_lst (mEs_ok es G es' h).ea)
  | .dct _ _, X, sc, sc0, G, e', h => by unfold mE at h; cases h
  | .bin o a b, X, sc, sc0, G, e', h => by
    unfold mE at h
    cases q : xEBinOp e' with
    | none => rw [q] at h; cases h
    | some r =>
      obtain ⟨a', op, b', pos⟩ := r
      rw [q] at h
      simp only [Bool.and_eq_true, decide_eq_true_eq] at h
      obtain ⟨⟨h1, h2⟩, h3⟩ := h
      have := xEBinOp_eq q
      subst this; subst h1
      exact of_plain G.gw.hK rfl (ee_bin o G.gw.hK (mE_ok a G a' h2).1 (mE_ok b G b' h3).1)
  | .neg a, X, sc, sc0, G, e', h => by
    unfold mE at h
    cases q : xEUnaryOp e' with
    | none => rw [q] at h; cases h
    | some r =>
      obtain ⟨op, a', pos⟩ := r
      rw [q] at h
      simp only [Bool.and_eq_true, decide_eq_true_eq] at h
      obtain ⟨h1, h2⟩ := h
      have := xEUnaryOp_eq q
      subst this; subst h1
      exact of_plain G.gw.hK rfl (ee_neg (mE_ok a G a' h2).1)
  | .cmp o a b, X, sc, sc0, G, e', h => by
    unfold mE at h
    cases q : xECompare e' with
    | none => rw [q] at h; cases h
    | some r =>
      obtain ⟨a', ops, bs, pos⟩ := r
      rw [q] at h
      match ops, bs, h, q with
      | [op], [b'], h, q =>
        simp only [Bool.and_eq_true, decide_eq_true_eq] at h
        obtain ⟨⟨⟨h1, h2⟩, h3⟩, h4⟩ := h
        have := xECompare_eq q
        subst this; subst h1
        exact ⟨ee_cmp o G.gw.hK G.gw.un (noSet_ne h2) (mE_ok a G a' h3).1 (mE_ok b G b' h4).1, fun _ => et_cmp o G.gw.hK G.gw.un (noSet_ne h2) (mE_ok a G a' h3).1 (mE_ok b G b' h4).1⟩
      | [], _, h, q => cases h
      | _ :: _ :: _, _, h, q => cases h
      | [_], [], h, q => cases h
      | [_], _ :: _ :: _, h, q => cases h
  | .chain o p a b c, X, sc, sc0, G, e', h => by
    unfold mE at h
    cases q : xECompare e' with
    | none => rw [q] at h; cases h
    | some r =>
      obtain ⟨a', ops, bs, pos⟩ := r
      rw [q] at h
      match ops, bs, h, q with
      | [op, op2], [b', c'], h, q =>
        simp only [Bool.and_eq_true, decide_eq_true_eq] at h
        obtain ⟨⟨⟨⟨⟨h1, h2⟩, h3⟩, h4⟩, h5⟩, h6⟩ := h
        have := xECompare_eq q
        subst this; subst h1; subst h2
        exact ⟨ee_chain o p G.gw.hK G.gw.un (noSet_ne h3) (mE_ok a G a' h4).1 (mE_ok b G b' h5).1 (mE_ok c G c' h6).1, fun _ => et_chain o p G.gw.hK G.gw.un (noSet_ne h3) (mE_ok a G a' h4).1 (mE_ok b G b' h5).1 (mE_ok c G c' h6).1⟩
      | [], _, h, q => cases h
      | [_], _, h, q => cases h
      | _ :: _ :: _ :: _, _, h, q => cases h
      | [_, _], [], h, q => cases h
      | [_, _], [_], h, q => cases h
      | [_, _], _ :: _ :: _ :: _, h, q => cases h
  | .and es, X, sc, sc0, G, e', h => by
    unfold mE at h
    cases q : xEBoolOp e' with
    | none => rw [q] at h; cases h
    | some r =>
      obtain ⟨op, es', pos⟩ := r
      rw [q] at h
      simp only [Bool.and_eq_true, decide_eq_true_eq] at h
      obtain ⟨⟨⟨h1, h2⟩, h3⟩, h4⟩ := h
      have := xEBoolOp_eq q
      subst this; subst h1
      have ne : es' ≠ [] := fun z => by subst z; cases h3
      have z := (mEs_ok es G es' h2).and (pos := pos) G.gw.hK ne h4
      exact ⟨z.1, fun _ => z.2.et⟩
  | .or es, X, sc, sc0, G, e', h => by
    unfold mE at h
    cases q : xEBoolOp e' with
    | none => rw [q] at h; cases h
    | some r =>
      obtain ⟨op, es', pos⟩ := r
      rw [q] at h
      simp only [Bool.and_eq_true, decide_eq_true_eq] at h
      obtain ⟨⟨⟨h1, h2⟩, h3⟩, h4⟩ := h
      have := xEBoolOp_eq q
      subst this; subst h1
      have ne : es' ≠ [] := fun z => by subst z; cases h3
      have z := (mEs_ok es G es' h2).or (pos := pos) G.gw.hK ne h4
      exact ⟨z.1, fun _ => z.2.et⟩
  | .not a, X, sc, sc0, G, e', h => by
    unfold mE at h
    cases q : xEUnaryOp e' with
    | none => rw [q] at h; cases h
    | some r =>
      obtain ⟨op, a', pos⟩ := r
      rw [q] at h
      simp only [Bool.and_eq_true, decide_eq_true_eq] at h
      obtain ⟨⟨h1, h2⟩, h3⟩ := h
      have := xEUnaryOp_eq q
      subst this; subst h1
      have z := mE_ok a G a' h3
      exact ⟨ee_not G.gw.hK z.1, fun _ => et_not (z.2 h2)⟩
  | .ite c a b, X, sc, sc0, G, e', h => by
    unfold mE at h
    cases q : xEIfExp e' with
    | none => rw [q] at h; cases h
    | some r =>
      obtain ⟨c', a', b', pos⟩ := r
      rw [q] at h
      simp only [Bool.and_eq_true, decide_eq_true_eq] at h
      obtain ⟨⟨⟨h1, h2⟩, h3⟩, h4⟩ := h
      have := xEIfExp_eq q
      subst this
      exact ⟨ee_ite ((mE_ok c G c' h2).2 h1) (mE_ok a G a' h3).1 (mE_ok b G b' h4).1, fun z => by cases z⟩
  | .idx a i, X, sc, sc0, G, e', h => by
    unfold mE at h
    cases q : xESubscript e' with
    | none => rw [q] at h; cases h
    | some r =>
      obtain ⟨a', i', pos⟩ := r
      rw [q] at h
      simp only [Bool.and_eq_true, decide_eq_true_eq] at h
      obtain ⟨⟨h1, h2⟩, h3⟩ := h
      have := xESubscript_eq q
      subst this
      exact of_plain G.gw.hK rfl (ee_idx G.gw.hK (noSli_ne h1) (mE_ok a G a' h2).1 (mE_ok i G i' h3).1)
  | .slc a lo hi, X, sc, sc0, G, e', h => by
    unfold mE at h
    cases q : xESubscript e' with
    | none => rw [q] at h; cases h
    | some r =>
      obtain ⟨a', i', pos⟩ := r
      rw [q] at h
      dsimp only at h
      cases q2 : xESlice i' with
      | none => rw [q2] at h; cases h
      | some r2 =>
        obtain ⟨lo', hi', st', p2⟩ := r2
        rw [q2] at h
        cases st' with
        | some _ => cases h
        | none =>
          simp only [Bool.and_eq_true, decide_eq_true_eq] at h
          obtain ⟨⟨h1, h2⟩, h3⟩ := h
          have := xESubscript_eq q
          subst this
          have := xESlice_eq q2
          subst this
          exact of_plain G.gw.hK rfl (ee_slc G.gw.hK (mE_ok a G a' h1).1 (mO_ok lo G lo' h2) (mO_ok hi G hi' h3))
  | .attr o f, X, sc, sc0, G, e', h => by
    unfold mE at h
    cases q : xEAttribute e' with
    | none => rw [q] at h; cases h
    | some r =>
      obtain ⟨o', nm, pos⟩ := r
      rw [q] at h
      simp only [Bool.and_eq_true, decide_eq_true_eq] at h
      obtain ⟨⟨⟨h1, h2⟩, h3⟩, h4⟩ := h
      have := xEAttribute_eq q
      subst this
      exact of_plain G.gw.hK rfl (ee_attr G.gw.hK (G.gw.hK ▸ G.gw.cls) (fun c hc => G.gw.hK ▸ G.gw.noat f nm h2 h3 c hc) (G.gw.sym f nm h2) (fun g z => G.gw.inj _ _ z) (abB_ok h1 _ _ _) (mE_ok o G o' h4).1)
  | .call f es, X, sc, sc0, G, e', h => by
    unfold mE at h
    cases q : xECall e' with
    | none => rw [q] at h; cases h
    | some r =>
      obtain ⟨g, es', kws, pos⟩ := r
      cases q2 : P.fns[f]? with
      | none => rw [q, q2] at h; cases kws <;> cases h
      | some fn =>
        rw [q, q2] at h
        cases kws with
        | cons k kws => cases h
        | nil =>
          dsimp only at h
          cases q3 : xEName g with
          | none => rw [q3] at h; cases h
          | some r3 =>
            obtain ⟨x, p0⟩ := r3
            rw [q3] at h
            simp only [Bool.and_eq_true, decide_eq_true_eq] at h
            obtain ⟨⟨⟨⟨h1, h2⟩, h3⟩, h4⟩, h5⟩ := h
            have := xECall_eq q
            subst this
            have := xEName_eq q3
            subst this
            subst h1
            have z := mEs_ok es G es' h4
            exact of_plain G.gw.hK rfl (ee_call (G.gw.fns f fn q2 (by simpa using h2) h5).c (G.gl h3) (G.gw.flen f fn q2) z.ns z.ea z.nil0)
  | .meth o c m f es, X, sc, sc0, G, e', h => by
    unfold mE at h
    cases q : xECall e' with
    | none => rw [q] at h; cases h
    | some r =>
      obtain ⟨g, es', kws, pos⟩ := r
      cases q4 : P.cls[c]? with
      | none => rw [q, q4] at h; cases kws <;> cases h
      | some cl =>
        cases q2 : P.fns[f]? with
        | none => rw [q, q4, q2] at h; cases kws <;> cases h
        | some fn =>
          rw [q, q4, q2] at h
          cases kws with
          | cons k kws => cases h
          | nil =>
            dsimp only at h
            cases q3 : xEAttribute g with
            | none => rw [q3] at h; cases h
            | some r3 =>
              obtain ⟨o', nm, apos⟩ := r3
              rw [q3] at h
              simp only [Bool.and_eq_true, decide_eq_true_eq] at h
              obtain ⟨⟨⟨⟨⟨⟨⟨h1, h2⟩, h3⟩, h4⟩, h5⟩, h6⟩, h7⟩, h8⟩ := h
              have := xECall_eq q
              subst this
              have := xEAttribute_eq q3
              subst this
              have z := mEs_ok es G es' h7
              exact of_plain G.gw.hK rfl (ee_meth (f := f) (G.gw.mts c cl m f fn nm q4 (by simpa using h3) q2 h8 h2).c (G.gw.sym m nm h2) (fun g z => G.gw.inj _ _ z) (G.gw.flen f fn q2) (abB_ok h1 _ _ _) z.ns h4 h5 (mE_ok o G o' h6).1 z.ea z.nil0)
  | .make c es, X, sc, sc0, G, e', h => by
    unfold mE at h
    cases q : xECall e' with
    | none => rw [q] at h; cases h
    | some r =>
      obtain ⟨g, es', kws, pos⟩ := r
      cases q2 : P.cls[c]? with
      | none => rw [q, q2] at h; cases kws <;> cases h
      | some cl =>
        rw [q, q2] at h
        cases kws with
        | cons k kws => cases h
        | nil =>
          dsimp only at h
          cases q3 : xEName g with
          | none => rw [q3] at h; cases h
          | some r3 =>
            obtain ⟨x, p0⟩ := r3
            rw [q3] at h
            simp only [Bool.and_eq_true, decide_eq_true_eq] at h
            obtain ⟨⟨⟨⟨h1, h2⟩, h3⟩, h4⟩, h5⟩ := h
            have := xECall_eq q
            subst this
            have := xEName_eq q3
            subst this
            subst h1
            have z := mEs_ok es G es' h4
            obtain ⟨fn, hf⟩ := Option.isSome_iff_exists.mp h2
            have e : evalE P M (.make c es) = fun ρ S => (evalEs P M es ρ S).bind fun xs S1 => makeD c (M.init cl.init) xs S1 := by
              funext ρ S
              show (match P.cls[c]? with
                | none => Rs.stuck
                | some cl => (evalEs P M es ρ S).bind fun xs S1 => makeD c (M.init cl.init) xs S1) = _
              rw [q2]
            refine of_plain G.gw.hK rfl ?_
            rw [e]
            exact ee_make (G.gw.mks c cl fn q2 hf (by rw [hf] at h5; exact h5)).c (G.gl h3) (G.gw.ilen _ fn hf) z.ns z.ea z.nil0
  | .makek c es ks names ds, X, sc, sc0, G, e', h => by
    unfold mE at h
    cases q : xECall e' with
    | none => rw [q] at h; cases h
    | some r =>
      obtain ⟨g, es', kws, pos⟩ := r
      cases q2 : P.cls[c]? with
      | none => rw [q, q2] at h; cases es' <;> cases h
      | some cl =>
        rw [q, q2] at h
        cases es' with
        | nil => cases h
        | cons e0 es' =>
          dsimp only at h
          cases q3 : xEName g with
          | none => rw [q3] at h; cases h
          | some r3 =>
            obtain ⟨x, p0⟩ := r3
            rw [q3] at h
            simp only [Bool.and_eq_true, decide_eq_true_eq, List.any_eq_true] at h
            obtain ⟨⟨⟨⟨⟨h1, h2⟩, h3⟩, h4⟩, h5⟩, ⟨c1, np1, ks1, ds1⟩, hm, ⟨⟨k1, k2⟩, k3⟩, k4⟩ := h
            dsimp only at k1 k2 k3 k4
            subst k1; subst k2; subst k3
            have := sameKw_eq k4
            subst this
            have := xECall_eq q
            subst this
            have := xEName_eq q3
            subst this
            subst h1
            have z := mEs_ok es G (e0 :: es') h4
            obtain ⟨w1, w2⟩ := mKs_ok ks G ks1 kws h5
            obtain ⟨fn, hf⟩ := Option.isSome_iff_exists.mp h2
            have e : evalE P M (.makek c1 es ks ks1 ds1) = fun ρ S => (evalEs P M es ρ S).bind fun xs S1 => (evalEs P M ks ρ S1).bind fun ys S2 => makeKD c1 (M.init cl.init) ds1 xs ys S2 := by
              funext ρ S
              show (match P.cls[c1]? with
                | none => Rs.stuck
                | some cl => (evalEs P M es ρ S).bind fun xs S1 => (evalEs P M ks ρ S1).bind fun ys S2 => makeKD c1 (M.init cl.init) ds1 xs ys S2) = _
              rw [q2]
            refine of_plain G.gw.hK rfl ?_
            rw [e]
            exact ee_makek (G.gw.mkks c1 cl fn _ _ _ q2 hf hm).c (G.gl h3) (G.gw.ilen _ fn hf) z.ns w2.1 (fun ρ S xs S1 y => evalEs_len y) (fun ρ S xs S1 y => (evalEs_len y).trans w2.2) z.ea w1
  | .blt f es, X, sc, sc0, G, e', h => by
    unfold mE at h
    cases q : xECall e' with
    | none => rw [q] at h; cases h
    | some r =>
      obtain ⟨g, es', kws, pos⟩ := r
      rw [q] at h
      cases es' with
      | nil => cases h
      | cons e0 es' =>
        cases kws with
        | cons k kws => cases h
        | nil =>
          dsimp only at h
          cases q3 : xEName g with
          | none => rw [q3] at h; cases h
          | some r3 =>
            obtain ⟨x, p0⟩ := r3
            rw [q3] at h
            simp only [Bool.and_eq_true, decide_eq_true_eq] at h
            obtain ⟨⟨⟨⟨h1, h2⟩, h3⟩, h4⟩, h5⟩ := h
            have := xECall_eq q
            subst this
            have := xEName_eq q3
            subst this
            subst h2
            exact of_plain G.gw.hK rfl (blt_ok G h1 h3 h4 (mEs_ok es G (e0 :: es') h5))
  | .bm m o es, X, sc, sc0, G, e', h => by
    unfold mE at h
    cases q : xECall e' with
    | none => rw [q] at h; cases h
    | some r =>
      obtain ⟨g, es', kws, pos⟩ := r
      rw [q] at h
      cases kws with
      | cons k kws => cases h
      | nil =>
        dsimp only at h
        cases q3 : xEAttribute g with
        | none => rw [q3] at h; cases h
        | some r3 =>
          obtain ⟨o', nm, apos⟩ := r3
          rw [q3] at h
          simp only [Bool.and_eq_true] at h
          obtain ⟨⟨⟨⟨h1, h2⟩, h3⟩, h4⟩, h5⟩ := h
          have := xECall_eq q
          subst this
          have := xEAttribute_eq q3
          subst this
          have z := mEs_ok es G es' h4
          refine of_plain G.gw.hK rfl ?_
          cases m with
          | append =>
            simp only [Bool.and_eq_true, decide_eq_true_eq] at h5
            obtain ⟨h5, h6⟩ := h5
            subst h5
            match es', h6, es, z with
            | [a'], _, [a], z => exact ee_append G.gw.hK (abB_ok h1 _ _ _) h2 z.1 (mE_ok o G o' h3).1 z.2.1.1
            | [a'], _, [], z => cases z
            | [a'], _, _ :: _ :: _, z => exact z.2.2.elim
          | pop =>
            simp only [Bool.and_eq_true, decide_eq_true_eq] at h5
            obtain ⟨h5, h6⟩ := h5
            subst h5
            match es', h6, es, z with
            | [], _, [], z => exact ee_pop G.gw.hK (abB_ok h1 _ _ _) h2 (mE_ok o G o' h3).1
            | [], _, _ :: _, z => exact z.elim
          | _ => cases h5
  | .isi a t, X, sc, sc0, G, e', h => by
    unfold mE at h
    cases q : xECall e' with
    | none => rw [q] at h; cases h
    | some r =>
      obtain ⟨g, es', kws, pos⟩ := r
      rw [q] at h
      match es', kws, h, q with
      | [a', ty], [], h, q =>
        dsimp only at h
        cases q3 : xEName g with
        | none => rw [q3] at h; cases h
        | some r3 =>
          obtain ⟨x, p0⟩ := r3
          cases q4 : xEName ty with
          | none => rw [q3, q4] at h; cases h
          | some r4 =>
            obtain ⟨y, p2⟩ := r4
            rw [q3, q4] at h
            simp only [Bool.and_eq_true, decide_eq_true_eq] at h
            obtain ⟨⟨⟨⟨⟨⟨⟨⟨h1, h2⟩, h3⟩, h4⟩, h5⟩, h6⟩, h7⟩, h8⟩, h9⟩ := h
            have := xECall_eq q
            subst this
            have := xEName_eq q3
            subst this
            have := xEName_eq q4
            subst this
            subst h1; subst h2
            have m1 := G.gw.free "isinstance" (by simpa [freeB] using h4)
            have m2 := G.gw.free (istN t) (by simpa [freeB] using h5)
            refine of_plain G.gw.hK rfl ?_
            cases t with
            | int => exact ee_isi G.gw.hK (G.gl h6) m1 (G.gl h7) m2 (by decide +kernel) (by decide +kernel) h8 ⟨"int", rfl, by decide +kernel⟩ (mE_ok a G a' h9).1
            | bool => exact ee_isi G.gw.hK (G.gl h6) m1 (G.gl h7) m2 (by decide +kernel) (by decide +kernel) h8 ⟨"bool", rfl, by decide +kernel⟩ (mE_ok a G a' h9).1
            | _ => cases h3
      | [], _, h, q => cases h
      | [_], _, h, q => cases h
      | _ :: _ :: _ :: _, _, h, q => cases h
      | [_, _], _ :: _, h, q => cases h
  | .comp own g it ifs elt, X, sc, sc0, G, e', h => by
    unfold mE at h
    cases q : xEListComp e' with
    | none => rw [q] at h; cases h
    | some r =>
      obtain ⟨elt', gs, scope, pos⟩ := r
      rw [q] at h
      match gs, h, q with
      | [⟨tg, iter, ifs', asy⟩], h, q =>
        simp only [Bool.and_eq_true, decide_eq_true_eq] at h
        obtain ⟨⟨⟨⟨⟨⟨⟨⟨h1, h2⟩, h3⟩, h4⟩, h5⟩, h6⟩, h7⟩, h8⟩, h9⟩ := h
        subst h1
        have := xEListComp_eq q
        subst this
        have ok : BlkOk X.N X.env.scope scope own := by rw [G.hN, G.hsc]; exact blkOk_by h2
        obtain ⟨i1, i2⟩ := mI_ok it G tg iter h3
        refine of_plain G.gw.hK rfl ?_
        refine ee_lc G.calm (by rw [G.hN]; exact G.nd) i1 ok (sl := g.slots) (fun i hi => ?_) (fun s H Ca cl fp => mG_ok (G.blk s H scope Ca cl fp) g tg h4) (fun s H Ca cl fp => ?_) (fun s H Ca cl fp => (mE_ok elt (G.blk s H scope Ca cl fp) elt' h9).1) i2
        · have := List.all_eq_true.mp h5 i hi
          simpa using this
        · have z := mEs_ok ifs (G.blk s H scope Ca cl fp) ifs' h6
          match ifs', ifs, z, h7, h8 with
          | [], [], z, _, _ => exact ef_nil
          | [], _ :: _, z, _, _ => exact z.elim
          | [c'], [c], z, _, h8 =>
            simp only [List.all_cons, List.all_nil, Bool.and_true] at h8
            exact ef_one (z.2.1.2 h8)
          | [c'], [], z, _, _ => cases z
          | [c'], _ :: _ :: _, z, _, _ => exact z.2.2.elim
          | _ :: _ :: _, _, z, h7, _ => simp at h7
      | [], h, q => cases h
      | ⟨_, _, _, _⟩ :: _ :: _, h, q => cases h
theorem mEs_ok : ∀ (es : List E) {X : Cx} {sc sc0 : Scope} (G : Cok C P M N sc sc0 X) (es' : List Expr), mEs P N es sc es' = true → EEsP C P M X es es'
  | [], X, sc, sc0, G, es', h => by
    cases es' with
    | nil => exact rfl
    | cons a as => cases h
  | a :: as, X, sc, sc0, G, es', h => by
    cases es' with
    | nil => cases h
    | cons e es' =>
      have h' : (noStar1 e && mE P N a sc e && mEs P N as sc es') = true := h
      simp only [Bool.and_eq_true] at h'
      exact ⟨h'.1.1, mE_ok a G e h'.1.2, mEs_ok as G es' h'.2⟩
theorem mKs_ok : ∀ (es : List E) {X : Cx} {sc sc0 : Scope} (G : Cok C P M N sc sc0 X) (ns : List Str) (kws : List Keyword), mKs P N es ns sc kws = true → EK C R0 X E0' kws (evalEs P M es) ∧ kwNames kws = ns.map some ∧ es.length = ns.length
  | [], X, sc, sc0, G, ns, kws, h => by
    cases ns with
    | nil =>
      cases kws with
      | nil => exact ⟨ek_nil, rfl, rfl⟩
      | cons k kws => cases h
    | cons n ns => cases h
  | a :: as, X, sc, sc0, G, ns, kws, h => by
    cases ns with
    | nil => cases h
    | cons n ns =>
      cases kws with
      | nil => cases h
      | cons k kws =>
        obtain ⟨nm, e, p⟩ := k
        have h' : (decide (nm = some n) && mE P N a sc e && mKs P N as ns sc kws) = true := h
        simp only [Bool.and_eq_true, decide_eq_true_eq] at h'
        obtain ⟨⟨h1, h2⟩, h3⟩ := h'
        subst h1
        obtain ⟨r1, r2, r3⟩ := mKs_ok as G ns kws h3
        refine ⟨ek_cons (mE_ok a G e h2).1 r1, ?_, by rw [List.length_cons, List.length_cons, r3]⟩
        show some n :: kwNames kws = some n :: ns.map some
        rw [r2]
theorem mO_ok : ∀ (o : Option E) {X : Cx} {sc sc0 : Scope} (G : Cok C P M N sc sc0 X) (o' : Option Expr), mO P N o sc o' = true → EO C R0 X E0' o' (evalO P M o)
  | none, X, sc, sc0, G, o', h => by
    cases o' with
    | none => exact eo_none
    | some e => cases h
  | some a, X, sc, sc0, G, o', h => by
    cases o' with
    | none => cases h
    | some e => exact eo_some (mE_ok a G e h).1
theorem mI_ok : ∀ (it : Nv.It) {X : Cx} {sc sc0 : Scope} (G : Cok C P M N sc sc0 X) (tg e' : Expr), mI P N it sc tg e' = true → EI C R0 X E0' tg e' (evalIt P M it) ∧ ∀ x, foldedSetIterable e' X.env x = pure x
  | .of a, X, sc, sc0, G, tg, e', h => by
    unfold mI at h
    simp only [Bool.and_eq_true] at h
    exact ⟨ei_of G.gw.hK (mE_ok a G e' h.2).1, noSet_fold h.1⟩
  | .range es, X, sc, sc0, G, tg, e', h => by
    unfold mI at h
    cases q : xECall e' with
    | none => rw [q] at h; cases h
    | some r =>
      obtain ⟨g, es', kws, pos⟩ := r
      rw [q] at h
      cases kws with
      | cons k kws => cases h
      | nil =>
        dsimp only at h
        cases q3 : xEName g with
        | none => rw [q3] at h; cases h
        | some r3 =>
          obtain ⟨x, p0⟩ := r3
          rw [q3] at h
          simp only [Bool.and_eq_true, decide_eq_true_eq] at h
          obtain ⟨⟨⟨⟨h1, h2⟩, h3⟩, h4⟩, h5⟩ := h
          have := xECall_eq q
          subst this
          have := xEName_eq q3
          subst this
          subst h1
          have z := mEs_ok es G es' h4
          have hm := G.gw.free "range" (by simpa [freeB] using h2)
          refine ⟨?_, noSet_fold rfl⟩
          match es', es, z with
          | [a'], [a], z => exact ei_range1 (G.gl h3) hm z.1 z.2.1.1
          | [a', b'], [a, b], z => exact ei_range2 (G.gl h3) hm z.1 z.2.2.1 z.2.1.1 z.2.2.2.1.1
          | [], _, z => simp at h5
          | [a'], [], z => cases z
          | [a'], _ :: _ :: _, z => exact z.2.2.elim
          | [a', b'], [], z => cases z
          | [a', b'], [_], z => exact absurd z.2.2 (by simp [EEsP])
          | [a', b'], _ :: _ :: _ :: _, z => exact z.2.2.2.2.elim
          | _ :: _ :: _ :: _, _, z => simp at h5
  | .enum a, X, sc, sc0, G, tg, e', h => by
    unfold mI at h
    cases q : xECall e' with
    | none => rw [q] at h; cases h
    | some r =>
      obtain ⟨g, es', kws, pos⟩ := r
      rw [q] at h
      match es', kws, h, q with
      | [a'], [], h, q =>
        dsimp only at h
        cases q3 : xEName g with
        | none => rw [q3] at h; cases h
        | some r3 =>
          obtain ⟨x, p0⟩ := r3
          rw [q3] at h
          simp only [Bool.and_eq_true, decide_eq_true_eq] at h
          obtain ⟨⟨⟨⟨⟨h1, h2⟩, h3⟩, h4⟩, h5⟩, h6⟩ := h
          have := xECall_eq q
          subst this
          have := xEName_eq q3
          subst this
          subst h1
          have hm := G.gw.free "enumerate" (by simpa [freeB] using h2)
          refine ⟨?_, noSet_fold rfl⟩
          cases tg with
          | Tuple elts kk tpos => exact ei_enum G.gw.hK (G.gl h3) hm h5 (mE_ok a G a' h6).1
          | _ => cases h4
      | [], _, h, q => cases h
      | _ :: _ :: _, _, h, q => cases h
      | [_], _ :: _, h, q => cases h
  | .zip _ _, X, sc, sc0, G, tg, e', h => by unfold mI at h; cases h
  | .rev _, X, sc, sc0, G, tg, e', h => by unfold mI at h; cases h
end
end
end Nv
/-! Nv: each statement is read as its evaluator says. -/
namespace Nv
open PySem PySem.Spec PyProof.Rows L2
mutual
def mS (P : Prog) (N : List Str) (sc : Scope) : St → Stmt → Bool
  | .expr e, s => match xSExpr s with
    | some (a, _) => notComp a && mE P N e sc a
    | none => false
  | .set i e, s => match xSAssign s with
    | some ([t], a, _) => mG N sc sc (.name i) t && mE P N e sc a && (match e with
      | .comp _ _ _ _ _ => true
      | _ => notComp a)
    | _ => false
  | .unp g e, s => match xSAssign s with
    | some ([t], a, _) => tupT t && (notTup a || (match xETuple t, xETuple a with
      | some (ts, _, _), some (vs, _, _) => decide (sc.kind = .function) && !(swBad vs) && (swOpt sc ts vs).isNone
      | _, _ => false)) && notComp a && mG N sc sc g t && mE P N e sc a
    | _ => false
  | .par is es, s => match xSAssign s with
    | some ([t], a, _) => (match xETuple t, xETuple a with
      | some (ts, _, _), some (vs, _, _) => decide (sc.kind = .function) && !(swBad vs) && mEs P N es sc vs && (match is, ts with
        | [i, j], [tx, ty] => (match xEName tx, xEName ty with
          | some (x, _), some (y, _) => decide (N[i]? = some x) && decide (N[j]? = some y) && decide (i ≠ j) && decide (sc.names.lookup x = some .local) && decide (sc.names.lookup y = some .local) && decide (swOpt sc ts vs = some [x, y]) && decide (vs.length = 2)
          | _, _ => false)
        | [i, j, l], [tx, ty, tz] => (match xEName tx, xEName ty, xEName tz with
          | some (x, _), some (y, _), some (z, _) => decide (N[i]? = some x) && decide (N[j]? = some y) && decide (N[l]? = some z) && decide (i ≠ j) && decide (i ≠ l) && decide (j ≠ l) && decide (sc.names.lookup x = some .local) && decide (sc.names.lookup y = some .local) && decide (sc.names.lookup z = some .local) && decide (swOpt sc ts vs = some [x, y, z]) && decide (vs.length = 3)
          | _, _, _ => false)
        | _, _ => false)
      | _, _ => false)
    | _ => false
  | .attr o f e, s => match xSAssign s with
    | some ([t], a, _) => (match xEAttribute t with
      | some (o', nm, _) => decide (P.syms[f]? = some nm) && decide (f < P.nf) && mE P N o sc o' && mE P N e sc a
      | none => false)
    | _ => false
  | .sub o i e, s => match xSAssign s with
    | some ([t], a, _) => (match xESubscript t with
      | some (o', i', _) => noSli i' && mE P N o sc o' && mE P N i sc i' && mE P N e sc a
      | none => false)
    | _ => false
  | .ite c a b, s => match xSIf s with
    | some (c', a', b', _) => tstB c' && mE P N c sc c' && mSs P N sc a a' && mSs P N sc b b'
    | none => false
  | .wh c b, s => match xSWhile s with
    | some (c', b', [], _) => tstB c' && mE P N c sc c' && mSs P N sc b b'
    | _ => false
  | .forr g it b _, s => match xSFor s with
    | some (tg, iter, b', [], _) => mI P N it sc tg iter && mG N sc sc g tg && mSs P N sc b b'
    | _ => false
  | .ret e, s => match xSReturn s with
    | some (some a, _) => mE P N e sc a
    | _ => false
  | .retN, s => match xSReturn s with
    | some (none, _) => true
    | _ => false
  | .pass, s => match s with
    | .Pass _ => true
    | _ => false
  | .cont, s => match s with
    | .Continue _ => true
    | _ => false
  | .brk, s => match s with
    | .Break _ => true
    | _ => false
  | .raise, _ => true
termination_by structural e => e
def mSs (P : Prog) (N : List Str) (sc : Scope) : List St → List Stmt → Bool
  | [], ss => match ss with
    | [] => true
    | _ => false
  | a :: as, ss => match ss with
    | s :: ss => mS P N sc a s && mSs P N sc as ss
    | [] => false
termination_by structural e => e
end
section
variable {C : Cxt} {P : Prog} {M : Sm} {N : List Str} {sc : Scope} {X : Cx}
theorem swaps_no {a : Expr} (h : notComp a = true) (t : Option Expr) (l : Nat) (env : Env) : swapsWith a t l env = pure false := by
  cases a <;> first
    | rfl
    | cases h
theorem swaps_other {a t : Expr} (h : ∀ x p, t ≠ .Name x p) (l : Nat) (env : Env) : swapsWith a (some t) l env = pure false := by
  cases t <;> first
    | (exact absurd rfl (h _ _))
    | (cases a <;> rfl)
theorem stores_no {t a : Expr} (h : tupT t = false ∨ notTup a = true) (hl : ∀ es p, t ≠ .List es p) (env : Env) : swappedStores [t] a env = pure none := by
  cases t <;> first
    | rfl
    | exact absurd rfl (hl _ _)
    | (cases a <;> first
        | rfl
        | (rcases h with h | h <;> cases h))
theorem sole {t a : Expr} {l : Nat} {env : Env} (h : swapsWith a (some t) l env = pure false) : swapsWithSole [t] a l env = pure false := h
theorem gName_good {i : Nat} : GoodG C (gName i) [i] (evalG (.name i)) := fun H L S ρ σ d v F Q s e r nd ou h => by
  have h' : (Rs.ok (ρ.set i (some (mat d S).1)) (mat d S).2).sat (fun ρ' S' => ∀ σ' M, SimS C H (L ++ M) S' → SimE C H (L ++ M) ρ' σ' → (∀ a ∈ M, a ∈ F) → Wip [i] σ σ' → Q σ' H) (fun _ _ => False) := h
  obtain ⟨M, s', r', m⟩ := mat_ok d s r nd ou
  refine h' (σ.set i (some v)) M s' (e.grow.set r') m ⟨List.length_set, fun j hj => ?_⟩
  exact List.getElem?_set_ne (fun q => hj (by simp [q]))
theorem asg_good {R : XR} {E : XK} {t : TE} {tg : TG} {sl : List Nat} {g : Nv.G} {fa : AEnv → Store → Rs D} (ga : GoodE C R E t fa) (gg : GoodG C tg sl (evalG g)) : GoodS C R E (tAsg t tg) (fun ρ S => (fa ρ S).bind fun x S1 => (evalG g x ρ S1).bind fun ρ1 S2 => .ok (.nx, ρ1) S2) := fun σ H L ρ S Z s e h => by
  refine ga.first s e (fun _ _ z => z) h fun x S1 v H1 L1 F1 p1 e1 h2 => ?_
  have h3 := sat_bind h2
  refine gg H1 L1 S1 ρ σ x v F1 _ p1.sim e1 p1.rep p1.fr.nd p1.fr.out ?_
  cases hq : evalG g x ρ S1 with
  | ok ρ1 S2 =>
    rw [hq] at h3
    exact fun σ' M s' e' m w => h3 σ' H1 (L1 ++ M) (p1.ext.grow p1.fr m) s' e'
  | ex y S2 => exact absurd hq (evalG_noex _ _ _ _ _ _)
  | stuck => rw [hq] at h3; exact h3.elim
/-- name = [..] -/
theorem setc_ok (G : Cok C P M N sc sc X) {i : Nat} {own : List (Str × Nat)} {g : Nv.G} {it : Nv.It} {ifs : List E} {elt : E} {t a : Expr} {pos : Pos} (hg : mG N sc sc (.name i) t = true) (h : mE P N (.comp own g it ifs elt) sc a = true) :
    ES C R0 X E0' (.Assign [t] a pos) (evalS P M (.set i (.comp own g it ifs elt))) := by
  have hE := (mE_ok (.comp own g it ifs elt) G a h).1
  have hG := mG_ok G (.name i) t hg
  unfold mE at h
  cases q : xEListComp a with
  | none => rw [q] at h; cases h
  | some r =>
    obtain ⟨elt', gs, scope, p1⟩ := r
    rw [q] at h
    match gs, h, q with
    | [⟨tg, iter, ifs', asy⟩], h, q =>
      simp only [Bool.and_eq_true, decide_eq_true_eq] at h
      obtain ⟨⟨⟨⟨⟨⟨⟨⟨h1, h2⟩, h3⟩, h4⟩, h5⟩, h6⟩, h7⟩, h8⟩, h9⟩ := h
      subst h1
      have := xEListComp_eq q
      subst this
      have ok : BlkOk X.N X.env.scope scope own := by rw [G.hN, G.hsc]; exact blkOk_by h2
      obtain ⟨i1, i2⟩ := mI_ok it G tg iter h3
      unfold mG at hg
      cases qn : xEName t with
      | none => rw [qn] at hg; cases hg
      | some r =>
        obtain ⟨x, px⟩ := r
        rw [qn] at hg
        simp only [Bool.and_eq_true, decide_eq_true_eq] at hg
        obtain ⟨g1, g2⟩ := hg
        have := xEName_eq qn
        subst this
        have hsw : ∃ b, swapsWith (.ListComp elt' [⟨tg, iter, ifs', 0⟩] scope p1) (some (.Name x px)) pos.line X.env = pure b ∧ (b = true → X.env.scope.names.lookup x = some .local) := by
          refine ⟨X.env.blockKind == .function && X.env.kindOf x == some .local && px.line == p1.line && !(scope.names.any fun (n, k) => n == x && (k == .local || k == .cell)), rfl, fun z => ?_⟩
          simp only [Bool.and_eq_true] at z
          have := z.1.1.2
          simpa [Env.kindOf] using this
        obtain ⟨b, sw, lo⟩ := hsw
        cases b with
        | false => exact es_asg (sole sw) rfl rfl hE hG
        | true =>
          have nd : X.N.Nodup := by rw [G.hN]; exact G.nd
          obtain ⟨wi, pi, gi⟩ := i1
          refine ⟨_, ps_setLc G.calm nd (by rw [G.hN]; exact g1) (lo rfl) sw pi ok (fun s H Ca cl fp => (mG_ok (G.blk s H scope Ca cl fp) g tg h4).canon) (fun s H Ca cl fp => (?_ : EF C R0 _ E0' ifs' (evalIfs P M ifs)).canon) (fun s H Ca cl fp => ((mE_ok elt (G.blk s H scope Ca cl fp) elt' h9).1).canon) i2, ?_⟩
          · have z := mEs_ok ifs (G.blk s H scope Ca cl fp) ifs' h6
            match ifs', ifs, z, h7, h8 with
            | [], [], z, _, _ => exact ef_nil
            | [], _ :: _, z, _, _ => exact z.elim
            | [c'], [c], z, _, h8 =>
              simp only [List.all_cons, List.all_nil, Bool.and_true] at h8
              exact ef_one (z.2.1.2 h8)
            | [c'], [], z, _, _ => cases z
            | [c'], _ :: _ :: _, z, _, _ => exact z.2.2.elim
            | _ :: _ :: _, _, z, h7, _ => simp at h7
          · exact asg_good (lc_good (fun i hi => by have := List.all_eq_true.mp h5 i hi; simpa using this) gi) gName_good
    | [], h, q => cases h
    | ⟨_, _, _, _⟩ :: _ :: _, h, q => cases h
theorem own_pass (G : Cok C P M N sc sc X) : PassesOwn (model X.prog X.w) X.A X.env X.xe := fun e s h => absurd h (G.never e s)
mutual
theorem mS_ok (G : Cok C P M N sc sc X) : ∀ (st : St) (s : Stmt), mS P N sc st s = true → ES C R0 X E0' s (evalS P M st)
  | .expr e, s, h => by
    unfold mS at h
    cases q : xSExpr s with
    | none => rw [q] at h; cases h
    | some r =>
      obtain ⟨a, pos⟩ := r
      rw [q] at h
      simp only [Bool.and_eq_true] at h
      have := xSExpr_eq q
      subst this
      exact es_expr (fun l => swaps_no h.1 _ _ _) (mE_ok e G a h.2).1
  | .set i e, s, h => by
    unfold mS at h
    cases q : xSAssign s with
    | none => rw [q] at h; cases h
    | some r =>
      obtain ⟨ts, a, pos⟩ := r
      rw [q] at h
      match ts, h, q with
      | [t], h, q =>
        simp only [Bool.and_eq_true] at h
        obtain ⟨⟨h1, h2⟩, h3⟩ := h
        have := xSAssign_eq q
        subst this
        have hn : ∃ x p, t = .Name x p := by
          unfold mG at h1
          cases qn : xEName t with
          | none => rw [qn] at h1; cases h1
          | some r => exact ⟨r.1, r.2, xEName_eq qn⟩
        obtain ⟨x, px, rfl⟩ := hn
        cases e with
        | comp own g it ifs elt => exact setc_ok G h1 h2
        | _ => exact es_asg (sole (swaps_no h3 _ _ _)) (stores_no (.inl rfl) (fun _ _ z => by cases z) _) rfl (mE_ok _ G a h2).1 (mG_ok G (.name i) _ h1)
      | [], h, q => cases h
      | _ :: _ :: _, h, q => cases h
  | .unp g e, s, h => by
    unfold mS at h
    cases q : xSAssign s with
    | none => rw [q] at h; cases h
    | some r =>
      obtain ⟨ts, a, pos⟩ := r
      rw [q] at h
      match ts, h, q with
      | [t], h, q =>
        simp only [Bool.and_eq_true] at h
        obtain ⟨⟨⟨⟨h1, h2⟩, h3⟩, h4⟩, h5⟩ := h
        have := xSAssign_eq q
        subst this
        cases t with
        | Tuple es k p =>
          have hw : swappedStores [.Tuple es k p] a X.env = pure none := by
            rw [Bool.or_eq_true] at h2
            rcases h2 with h2 | h2
            · exact stores_no (.inr h2) (fun _ _ z => by cases z) _
            · cases qa : xETuple a with
              | none => rw [qa] at h2; cases h2
              | some r =>
                obtain ⟨vs, k2, p2⟩ := r
                have := xETuple_eq qa
                subst this
                have h2 : (decide (sc.kind = .function) && !(swBad vs) && (swOpt sc es vs).isNone) = true := h2
                simp only [Bool.and_eq_true, decide_eq_true_eq, Bool.not_eq_true', Option.isNone_iff_eq_none] at h2
                rw [swapped_eq G.hsc h2.1.1 h2.1.2, h2.2]
          exact es_asg (sole (swaps_no h3 _ _ _)) hw rfl (mE_ok _ G a h5).1 (mG_ok G g _ h4)
        | _ => cases h1
      | [], h, q => cases h
      | _ :: _ :: _, h, q => cases h
  | .par is es, s, h => by
    unfold mS at h
    cases q : xSAssign s with
    | none => rw [q] at h; cases h
    | some r =>
      obtain ⟨tts, a, pos⟩ := r
      rw [q] at h
      match tts, h, q with
      | [t], h, q =>
        dsimp only at h
        have := xSAssign_eq q
        subst this
        cases qt : xETuple t with
        | none => rw [qt] at h; cases h
        | some r =>
          obtain ⟨ts, kt, pt⟩ := r
          cases qa : xETuple a with
          | none => rw [qt, qa] at h; cases h
          | some r =>
            obtain ⟨vs, k2, p2⟩ := r
            rw [qt, qa] at h
            simp only [Bool.and_eq_true, decide_eq_true_eq, Bool.not_eq_true'] at h
            obtain ⟨⟨⟨h1, h2⟩, h3⟩, h4⟩ := h
            have := xETuple_eq qt
            subst this
            have := xETuple_eq qa
            subst this
            have z := mEs_ok es G vs h3
            have sw := swapped_eq (ts := ts) (k := kt) (k2 := k2) (p := pt) (p2 := p2) G.hsc h1 h2
            have nd : X.N.Nodup := by rw [G.hN]; exact G.nd
            match is, ts, h4, sw with
            | [i, j], [tx, ty], h4, sw =>
              dsimp only at h4
              cases qx : xEName tx with
              | none => rw [qx] at h4; cases h4
              | some r =>
                obtain ⟨x, px⟩ := r
                cases qy : xEName ty with
                | none => rw [qx, qy] at h4; cases h4
                | some r =>
                  obtain ⟨y, py⟩ := r
                  rw [qx, qy] at h4
                  simp only [Bool.and_eq_true, decide_eq_true_eq] at h4
                  obtain ⟨⟨⟨⟨⟨⟨g1, g2⟩, g3⟩, g4⟩, g5⟩, g6⟩, g7⟩ := h4
                  have := xEName_eq qx
                  subst this
                  have := xEName_eq qy
                  subst this
                  rw [g6] at sw
                  match vs, g7, z, sw with
                  | [a1, a2], _, z, sw =>
                    exact es_par2 G.calm nd (by rw [G.hN]; exact g1) (by rw [G.hN]; exact g2) g3 (by rw [G.hsc]; exact g4) (by rw [G.hsc]; exact g5) z.ea (fun ρ S xs S1 w => (evalEs_len w).trans z.len) sw
            | [i, j, l], [tx, ty, tz], h4, sw =>
              dsimp only at h4
              cases qx : xEName tx with
              | none => rw [qx] at h4; cases h4
              | some r =>
                obtain ⟨x, px⟩ := r
                cases qy : xEName ty with
                | none => rw [qx, qy] at h4; cases h4
                | some r =>
                  obtain ⟨y, py⟩ := r
                  cases qz : xEName tz with
                  | none => rw [qx, qy, qz] at h4; cases h4
                  | some r =>
                    obtain ⟨zz, pz⟩ := r
                    rw [qx, qy, qz] at h4
                    simp only [Bool.and_eq_true, decide_eq_true_eq] at h4
                    obtain ⟨⟨⟨⟨⟨⟨⟨⟨⟨⟨g1, g2⟩, g3⟩, g4⟩, g5⟩, g6⟩, g7⟩, g8⟩, g9⟩, g10⟩, g11⟩ := h4
                    have := xEName_eq qx
                    subst this
                    have := xEName_eq qy
                    subst this
                    have := xEName_eq qz
                    subst this
                    rw [g10] at sw
                    match vs, g11, z, sw with
                    | [a1, a2, a3], _, z, sw =>
                      exact es_par3 G.calm nd (by rw [G.hN]; exact g1) (by rw [G.hN]; exact g2) (by rw [G.hN]; exact g3) g4 g5 g6 (by rw [G.hsc]; exact g7) (by rw [G.hsc]; exact g8) (by rw [G.hsc]; exact g9) z.ea (fun ρ S xs S1 w => (evalEs_len w).trans z.len) sw
            | [], _, h4, sw => cases h4
            | [_], _, h4, sw => cases h4
            | _ :: _ :: _ :: _ :: _, _, h4, sw => cases h4
            | [_, _], [], h4, sw => cases h4
            | [_, _], [_], h4, sw => cases h4
            | [_, _], _ :: _ :: _ :: _, h4, sw => cases h4
            | [_, _, _], [], h4, sw => cases h4
            | [_, _, _], [_], h4, sw => cases h4
            | [_, _, _], [_, _], h4, sw => cases h4
            | [_, _, _], _ :: _ :: _ :: _ :: _, h4, sw => cases h4
      | [], h, q => cases h
      | _ :: _ :: _, h, q => cases h
  | .attr o f e, s, h => by
    unfold mS at h
    cases q : xSAssign s with
    | none => rw [q] at h; cases h
    | some r =>
      obtain ⟨ts, a, pos⟩ := r
      rw [q] at h
      match ts, h, q with
      | [t], h, q =>
        dsimp only at h
        cases q2 : xEAttribute t with
        | none => rw [q2] at h; cases h
        | some r =>
          obtain ⟨o', nm, p2⟩ := r
          rw [q2] at h
          simp only [Bool.and_eq_true, decide_eq_true_eq] at h
          obtain ⟨⟨⟨h1, h2⟩, h3⟩, h4⟩ := h
          have := xSAssign_eq q
          subst this
          have := xEAttribute_eq q2
          subst this
          exact es_attr G.gw.hK (G.gw.hK ▸ G.gw.cls) (fun c hc => G.gw.hK ▸ G.gw.noat f nm h1 h2 c hc) (G.gw.sym f nm h1) (fun g z => G.gw.inj _ _ z) (swaps_other (fun _ _ z => by cases z) _ _) (mE_ok o G o' h3).1 (mE_ok e G a h4).1
      | [], h, q => cases h
      | _ :: _ :: _, h, q => cases h
  | .sub o i e, s, h => by
    unfold mS at h
    cases q : xSAssign s with
    | none => rw [q] at h; cases h
    | some r =>
      obtain ⟨ts, a, pos⟩ := r
      rw [q] at h
      match ts, h, q with
      | [t], h, q =>
        dsimp only at h
        cases q2 : xESubscript t with
        | none => rw [q2] at h; cases h
        | some r =>
          obtain ⟨o', i', p2⟩ := r
          rw [q2] at h
          simp only [Bool.and_eq_true] at h
          obtain ⟨⟨⟨h1, h2⟩, h3⟩, h4⟩ := h
          have := xSAssign_eq q
          subst this
          have := xESubscript_eq q2
          subst this
          exact es_sub G.gw.hK (noSli_ne h1) (sole (swaps_other (fun _ _ z => by cases z) _ _)) (stores_no (.inl rfl) (fun _ _ z => by cases z) _) (mE_ok o G o' h2).1 (mE_ok i G i' h3).1 (mE_ok e G a h4).1
      | [], h, q => cases h
      | _ :: _ :: _, h, q => cases h
  | .ite c a b, s, h => by
    unfold mS at h
    cases q : xSIf s with
    | none => rw [q] at h; cases h
    | some r =>
      obtain ⟨c', a', b', pos⟩ := r
      rw [q] at h
      simp only [Bool.and_eq_true] at h
      obtain ⟨⟨⟨h1, h2⟩, h3⟩, h4⟩ := h
      have := xSIf_eq q
      subst this
      exact es_ite ((mE_ok c G c' h2).2 h1) (mSs_ok G a a' h3) (mSs_ok G b b' h4)
  | .wh c b, s, h => by
    unfold mS at h
    cases q : xSWhile s with
    | none => rw [q] at h; cases h
    | some r =>
      obtain ⟨c', b', orelse, pos⟩ := r
      rw [q] at h
      cases orelse with
      | cons _ _ => cases h
      | nil =>
        simp only [Bool.and_eq_true] at h
        obtain ⟨⟨h1, h2⟩, h3⟩ := h
        have := xSWhile_eq q
        subst this
        exact es_wh (own_pass G) ((mE_ok c G c' h2).2 h1) (mSs_ok G b b' h3) WF
  | .forr g it b gc, s, h => by
    unfold mS at h
    cases q : xSFor s with
    | none => rw [q] at h; cases h
    | some r =>
      obtain ⟨tg, iter, b', orelse, pos⟩ := r
      rw [q] at h
      cases orelse with
      | cons _ _ => cases h
      | nil =>
        simp only [Bool.and_eq_true] at h
        obtain ⟨⟨h1, h2⟩, h3⟩ := h
        have := xSFor_eq q
        subst this
        obtain ⟨i1, i2⟩ := mI_ok it G tg iter h1
        exact es_for gc (own_pass G) G.calm i1 (mG_ok G g tg h2) (mSs_ok G b b' h3) i2
  | .ret e, s, h => by
    unfold mS at h
    cases q : xSReturn s with
    | none => rw [q] at h; cases h
    | some r =>
      obtain ⟨o, pos⟩ := r
      rw [q] at h
      cases o with
      | none => cases h
      | some a =>
        have := xSReturn_eq q
        subst this
        exact es_ret (mE_ok e G a h).1
  | .retN, s, h => by
    unfold mS at h
    cases q : xSReturn s with
    | none => rw [q] at h; cases h
    | some r =>
      obtain ⟨o, pos⟩ := r
      rw [q] at h
      cases o with
      | some _ => cases h
      | none =>
        have := xSReturn_eq q
        subst this
        exact es_retN
  | .pass, s, h => by
    unfold mS at h
    cases s with
    | Pass p => exact es_pass
    | _ => cases h
  | .cont, s, h => by
    unfold mS at h
    cases s with
    | Continue p => exact es_cont
    | _ => cases h
  | .brk, s, h => by
    unfold mS at h
    cases s with
    | Break p => exact es_brk
    | _ => cases h
  | .raise, s, h => es_never
theorem mSs_ok (G : Cok C P M N sc sc X) : ∀ (st : List St) (s : List Stmt), mSs P N sc st s = true → ESs C R0 X E0' s (evalSs P M st)
  | [], s, h => by
    cases s with
    | nil => exact ess_nil
    | cons _ _ => cases h
  | a :: as, s, h => by
    cases s with
    | nil => cases h
    | cons s ss =>
      have h' : (mS P N sc a s && mSs P N sc as ss) = true := h
      simp only [Bool.and_eq_true] at h'
      exact ess_cons (mS_ok G a s h'.1) (mSs_ok G as ss h'.2)
end
end
end Nv
/-! Nv: each def keeps its evaluator's promise. -/
namespace Nv
open PySem PySem.Spec PyProof.Rows L2
section
variable {C : Cxt} {P : Prog} {M : Sm} {N : List Str} {sc : Scope} {X : Cx}
theorem start_get {N : List Str} {vs : List V} {i : Nat} {v : V} (h : vs[i]? = some v) : (L2.start N vs)[i]? = some (some v) := by
  unfold L2.start
  have hl := (List.getElem?_eq_some_iff.mp h).1
  rw [List.getElem?_append_left (by rw [List.length_map]; exact hl), List.getElem?_map, h]
  rfl
theorem start_len {N : List Str} {vs : List V} (h : vs.length ≤ N.length) : (L2.start N vs).length = N.length := by
  unfold L2.start
  rw [List.length_append, List.length_map, List.length_replicate]; omega
theorem simE_start {H : Hp} {L : List Addr} {ds : List D} {vs : List V} {N : List Str} {n : Nat} (r : Reps C H L ds vs []) (hn : n = N.length) (hp : ds.length ≤ n) : SimE C H L (ds.map some ++ List.replicate (n - ds.length) none) (L2.start N vs) := by
  have hl := r.length
  refine ⟨?_, fun i d h => ?_⟩
  · rw [start_len (by omega), List.length_append, List.length_map, List.length_replicate]; omega
  · by_cases q : i < ds.length
    · rw [List.getElem?_append_left (by rw [List.length_map]; exact q), List.getElem?_map] at h
      cases hd : ds[i]? with
      | none => rw [hd] at h; cases h
      | some d' =>
        rw [hd] at h
        cases h
        obtain ⟨v, G, h1, h2, h3⟩ := r.at hd
        have : G = [] := List.sublist_nil.mp h3
        subst this
        exact ⟨v, start_get h1, h2⟩
    · rw [List.getElem?_append_right (by rw [List.length_map]; omega), List.getElem?_replicate] at h
      split at h <;> cases h
theorem adrs_mem {L : List Addr} {us : List Nat} (h : ∀ u ∈ us, u < L.length) : ∀ a ∈ adrs L us, ∃ u ∈ us, L[u]? = some a := by
  intro a ha
  obtain ⟨u, hu, e⟩ := List.mem_map.mp ha
  refine ⟨u, hu, ?_⟩
  rw [List.getElem?_eq_getElem (h u hu)]
  rw [List.getD_eq_getElem?_getD, List.getElem?_eq_getElem (h u hu)] at e
  exact congrArg some e
theorem nodup_get : ∀ {L : List Addr} (nd : L.Nodup) {i j : Nat} {a : Addr} (h1 : L[i]? = some a) (h2 : L[j]? = some a), i = j
  | [], _, i, j, a, h1, _ => by simp at h1
  | x :: L, nd, 0, 0, a, _, _ => rfl
  | x :: L, nd, 0, j + 1, a, h1, h2 => by
    simp at h1 h2
    subst h1
    exact absurd (List.mem_of_getElem? h2) (List.nodup_cons.mp nd).1
  | x :: L, nd, i + 1, 0, a, h1, h2 => by
    simp at h1 h2
    subst h2
    exact absurd (List.mem_of_getElem? h1) (List.nodup_cons.mp nd).1
  | x :: L, nd, i + 1, j + 1, a, h1, h2 => by
    simp at h1 h2
    rw [nodup_get (List.nodup_cons.mp nd).2 h1 h2]
theorem adrs_nodup {L : List Addr} (nd : L.Nodup) : ∀ {us : List Nat}, us.Nodup → (∀ u ∈ us, u < L.length) → (adrs L us).Nodup
  | [], _, _ => List.nodup_nil
  | u :: us, h, hl => by
    have h' := List.nodup_cons.mp h
    have ih := adrs_nodup nd h'.2 fun w hw => hl w (List.mem_cons_of_mem _ hw)
    refine List.nodup_cons.mpr ⟨fun hm => ?_, ih⟩
    obtain ⟨w, hw, e⟩ := adrs_mem (fun w hw => hl w (List.mem_cons_of_mem _ hw)) _ hm
    have hu := hl u List.mem_cons_self
    have e2 : L[u]? = some (L.getD u 0) := by rw [List.getD_eq_getElem?_getD, List.getElem?_eq_getElem hu]; rfl
    exact h'.1 (nodup_get nd e2 e ▸ hw)
/-- a def's end -/
theorem fin_ok {gc : Bool} {H : Hp} {L : List Addr} {S : Store} {Q : VK} {R : XR} {E : XK} {d : D} {S' : Store} (s0 : SimS C H L S) (h : (finF gc S d S').sat (OkW C H L Q) (ExW C R E H L)) {v : V} {H' : Hp} {L' F : List Addr} (p : Post C H L S' d v H' L' F) : Q v H' := by
  cases gc with
  | false => exact h v H' L' F p
  | true =>
    unfold finF at h
    cases h1 : reify S' S.length 6 d with
    | none => simp only [h1] at h; exact h.elim
    | some r =>
      obtain ⟨d', us⟩ := r
      cases h2 : trunc S S' with
      | none => simp only [h1, h2] at h; exact h.elim
      | some T =>
        simp only [h1, h2] at h
        by_cases nu : us.Nodup
        · rw [if_pos nu] at h
          obtain ⟨G, r1, r2, r3⟩ := reify_ok p.sim (n := S.length) 6 d v F (d', us) p.rep h1
          obtain ⟨M, en, nn⟩ := p.ext.pre
          have hn : L'.take S.length = L := by rw [← s0.len, en]; simp
          rw [hn] at r1
          have tk := trunc_ok s0 ⟨M, en⟩ p.sim h2
          have inM : ∀ u, S.length ≤ u → u < L'.length → ∀ a, L'[u]? = some a → a ∈ M ∧ a ∉ L := by
            intro u h1 h2 a ha
            have hm : a ∈ M := by
              rw [en, List.getElem?_append_right (by rw [s0.len]; exact h1)] at ha
              exact List.mem_of_getElem? ha
            refine ⟨hm, fun hl => ?_⟩
            obtain ⟨k, hk⟩ := List.getElem?_of_mem hl
            have hk' : L'[k]? = some a := by rw [en, List.getElem?_append_left (List.getElem?_eq_some_iff.mp hk).1]; exact hk
            have := nodup_get p.sim.nd ha hk'
            have := (List.getElem?_eq_some_iff.mp hk).1
            rw [s0.len] at this
            omega
          refine h v H' L G ⟨p.ext.drop, tk.1, r1, ⟨fun a ha => ?_, r2.nodup_iff.mpr ?_, fun a ha => ?_⟩⟩
          · rcases List.mem_append.mp (r2.mem_iff.mp ha) with q | q
            · exact p.fr.new a q
            · obtain ⟨u, hu, e⟩ := adrs_mem (fun u hu => (r3 u hu).2) a q
              exact nn a (inM u (r3 u hu).1 (r3 u hu).2 a e).1
          · rw [List.nodup_append]
            refine ⟨p.fr.nd, adrs_nodup p.sim.nd nu fun u hu => (r3 u hu).2, fun a ha b hb z => ?_⟩
            subst z
            obtain ⟨u, hu, e⟩ := adrs_mem (fun u hu => (r3 u hu).2) a hb
            exact p.fr.out a ha (List.mem_of_getElem? e)
          · rcases List.mem_append.mp (r2.mem_iff.mp ha) with q | q
            · intro hl
              exact p.fr.out a q (by rw [en]; exact List.mem_append_left _ hl)
            · obtain ⟨u, hu, e⟩ := adrs_mem (fun u hu => (r3 u hu).2) a q
              exact (inM u (r3 u hu).1 (r3 u hu).2 a e).2
        · rw [if_neg nu] at h; exact h.elim
/-- THE RULE for a def -/
theorem fn_ok {prog : Program} {w : World} {K : PySem.W.Frag} {mg : Str → Option Value} {base : Heap} {x qual : Str} {params : Arguments} {body : List Stmt} {dvs : List V} {kws : List (Str × V)} {f : Addr} {fd : FuncData} {ps : List Str} {k i : Nat} {fn : Fn}
    (F : FunD K x qual params body sc dvs kws f fd) (S : FnScope N ps sc) (hf : P.fns[i]? = some fn) (hN : fn.slots = N.length) (hp : fn.ps = ps.length) (hm : mSs P N sc fn.body body = true)
    (hG : ∀ A : Around, Room k A → Gw C P M prog w K mg base A) : FnOk prog w K mg base CX0 (k + 1) f fd ps (spF C R0 fn.ps (runF P M i)) := by
  refine F.ok S (fun vs H Q E h => by rw [← hp]; exact h.1) fun cdv A outer s H vs Q E hr h => ?_
  obtain ⟨hl, L, S0, ds, s0, r0, h⟩ := h
  have G : Cok C P M N sc sc (cxOf CX0 prog w K mg base N qual sc f cdv A outer s H E).nox := ⟨hG _ hr, rfl, S.nd, rfl, rfl, fun _ _ => rfl, fun _ _ z => z⟩
  obtain ⟨t, pt, gt⟩ := mSs_ok G fn.body body hm
  refine ⟨t, PSs.nox pt, ?_⟩
  have hd : ds.length = fn.ps := r0.length.trans hl
  have h' : (if ds.length = fn.ps ∧ fn.ps ≤ fn.slots then
      (evalSs P M fn.body (ds.map some ++ List.replicate (fn.slots - fn.ps) none) S0).bind fun q S' => match q.1 with
        | .nx => finF fn.gc S0 .non S'
        | .rt d => finF fn.gc S0 d S'
        | _ => .stuck
    else .stuck).sat (OkW C H L Q) (ExW C R0 E H L) := by
    have e : runF P M i ds S0 = (if ds.length = fn.ps ∧ fn.ps ≤ fn.slots then
      (evalSs P M fn.body (ds.map some ++ List.replicate (fn.slots - fn.ps) none) S0).bind fun q S' => match q.1 with
        | .nx => finF fn.gc S0 .non S'
        | .rt d => finF fn.gc S0 d S'
        | _ => .stuck
    else .stuck) := by
      unfold runF
      rw [hf]
      try rfl
    rw [← e]; exact h
  by_cases q : ds.length = fn.ps ∧ fn.ps ≤ fn.slots
  · rw [if_pos q] at h'
    have h2 := sat_bind h'
    have e0 : SimE C H L (ds.map some ++ List.replicate (fn.slots - fn.ps) none) (L2.start N vs) := by
      rw [← q.1]
      exact simE_start r0 hN (by omega)
    refine gt (L2.start N vs) H L _ S0 _ s0 e0 (sat_mono h2 (fun r S' z => ?_) fun _ _ z => fun cls dd H' L' e1 e2 e3 => e3.elim)
    obtain ⟨fl, ρ⟩ := r
    cases fl with
    | nx => exact fun σ' H' L' x' s' e' => fin_ok s0 z ⟨x', s', .non, Fr.nil _ _⟩
    | rt d => exact fun v H' L' F p => fin_ok s0 z p
    | bk => exact z.elim
    | ct => exact z.elim
  · rw [if_neg q] at h'; exact h'.elim
end
end Nv
/-! Nv: a whole program. -/
namespace Nv
open PySem PySem.Spec PyProof.Rows L2
def clsB : Stmt → List Stmt
  | .ClassDef (body := b) .. => b
  | _ => []
/-! ### depth -/
theorem runF_len {P : Prog} {M : Sm} {f : Nat} {fn : Fn} (h : P.fns[f]? = some fn) (ds : List D) (hl : ds.length ≠ fn.ps) (S : Store) : runF P M f ds S = .stuck := by
  unfold runF
  rw [h]
  exact if_neg fun q => hl q.1
theorem sm_len {P : Prog} : ∀ (d : Nat) {f : Nat} {fn : Fn}, P.fns[f]? = some fn → ∀ ds : List D, ds.length ≠ fn.ps → ∀ S, (sm P d).call f ds S = .stuck
  | 0, _, _, _, _, _, _ => rfl
  | d + 1, f, fn, h, ds, hl, S => runF_len h ds hl S
theorem sm_leni {P : Prog} : ∀ (d : Nat) {f : Nat} {fn : Fn}, P.fns[f]? = some fn → ∀ ds : List D, ds.length ≠ fn.ps → ∀ S, (sm P d).init f ds S = .stuck
  | 0, _, _, _, _, _, _ => rfl
  | d + 1, f, fn, h, ds, hl, S => sm_len d h ds hl S
theorem vals_app : ∀ {vs zs : List V} {us ws : List Value}, Vals vs us → Vals zs ws → Vals (vs ++ zs) (us ++ ws)
  | _, _, _, _, .nil, h => h
  | _, _, _, _, .cons r rr, h => .cons r (vals_app rr h)
/-! ### the program's facts -/
def KwOk (C : Cxt) (K : PySem.W.Frag) (fd : FuncData) (ps : List Str) (np : Nat) (ks : List Str) (ds : List (Nat ⊕ D)) : Prop :=
  ∃ (gV : List V → List V → List V) (gu : List Value → List Value → List Value), KBn K fd ps (np + 1) ks gu gV ∧ ∀ (H : Hp) (L : List Addr) (xs ys : List D) (vs zs : List V), xs.length = np → ys.length = ks.length → Reps C H L xs vs [] → Reps C H L ys zs [] → ∀ v, ∃ ws, gV (v :: vs) zs = v :: ws ∧ Reps C H L (xs ++ kwD ds ys) ws []
def initOf (P : Prog) (c : Nat) : Option Nat := (P.cls[c]?).map (·.init)
structure DefOk (C : Cxt) (P : Prog) (K : PySem.W.Frag) (f : Addr) (i : Nat) (fn : Fn) (fd : FuncData) (ps : List Str) : Prop where
  ex : ∃ (N : List Str) (x qual : Str) (params : Arguments) (body : List Stmt) (sc : Scope) (dvs : List V) (kws : List (Str × V)), FunD K x qual params body sc dvs kws f fd ∧ FnScope N ps sc ∧ fn.slots = N.length ∧ mSs P N sc fn.body body = true
  np : fn.ps = ps.length
  kp : PySem.W.keepIn K (.ref f) = true
  bd : fn.pos = true → Binds K fd ps []
  kw : ∀ q ∈ P.kws, initOf P q.1 = some i → KwOk C K fd ps q.2.1 q.2.2.1 q.2.2.2
structure PF (C : Cxt) (P : Prog) (w : World) (K : PySem.W.Frag) (mg : Str → Option Value) (FA : Nat → Addr) : Prop where
  hK : K = C.K
  defs : ∀ i fn, P.fns[i]? = some fn → ∃ fd ps, DefOk C P K (FA i) i fn fd ps
  call_ : ∀ i fn, P.fns[i]? = some fn → fn.name.cps.isEmpty = false → (fn.name == ("__debug__" : Str)) = false ∧ mg fn.name = some (.ref (FA i))
  make_ : ∀ c cl, P.cls[c]? = some cl → (cl.name == ("__debug__" : Str)) = false ∧ c < C.nc ∧ mg cl.name = some (.ref (C.CA c)) ∧ (∀ fn, P.fns[cl.init]? = some fn → Mk K (C.CA c) (FA cl.init))
  meth_ : ∀ c cl m f nm, P.cls[c]? = some cl → (m, f) ∈ cl.meths → P.syms[m]? = some nm → Meth K (C.CA c) nm (FA f)
  globs : ∀ (k : Nat) (g : Str × D), P.globs[k]? = some g → ∃ v u, mg g.1 = some u ∧ RelV v u ∧ ∀ H L, Rep C H L g.2 v []
  free : ∀ x ∈ P.free, mg x = none
  sym : ∀ k nm, P.syms[k]? = some nm → C.sym k = nm
  inj : ∀ f g, C.sym f = C.sym g → f = g
  cls : ∀ c, c < C.nc → Cls K (C.CA c)
  noat : ∀ f nm, P.syms[f]? = some nm → f < P.nf → ∀ c, c < C.nc → NoAttr K (C.CA c) nm
section
variable {C : Cxt} {P : Prog} {prog : Program} {w : World} {K : PySem.W.Frag} {mg : Str → Option Value} {base : Heap} {FA : Nat → Addr}
/-- every def keeps its promise at a depth -/
def All (C : Cxt) (P : Prog) (prog : Program) (w : World) (K : PySem.W.Frag) (mg : Str → Option Value) (base : Heap) (FA : Nat → Addr) (k : Nat) (g : Nat → List D → Store → Rs D) : Prop :=
  ∀ i fn fd ps, P.fns[i]? = some fn → DefOk C P K (FA i) i fn fd ps → FnOk prog w K mg base CX0 k (FA i) fd ps (spF C R0 fn.ps (g i))
theorem all_stuck (k : Nat) : All C P prog w K mg base FA k (fun _ _ _ => .stuck) := fun i fn fd ps h d =>
  ⟨fun vs H Q E z => by rw [← d.np]; exact z.1, fun A outer s H args us vs Q E _ _ _ _ z => by
    obtain ⟨_, L, S, ds, _, _, q⟩ := z
    exact q.elim⟩
theorem gw_of (F : PF C P w K mg FA) {M : Sm} {k j : Nat} (hj : j + 1 ≤ k) (hc : All C P prog w K mg base FA k M.call) (hi : All C P prog w K mg base FA j M.init)
    (lc : ∀ f fn, P.fns[f]? = some fn → ∀ ds : List D, ds.length ≠ fn.ps → ∀ S, M.call f ds S = .stuck) (li : ∀ f fn, P.fns[f]? = some fn → ∀ ds : List D, ds.length ≠ fn.ps → ∀ S, M.init f ds S = .stuck) {A : Around} (hr : Room k A) : Gw C P M prog w K mg base A where
  hK := F.hK
  un := by have := hr.un; omega
  fns := fun f fn h hn hp => by
    obtain ⟨fd, ps, d⟩ := F.defs f fn h
    obtain ⟨h1, h2⟩ := F.call_ f fn h hn
    exact ⟨h1, k, FA f, fd, ps, hc f fn fd ps h d, hr, h2, d.kp, d.bd hp⟩
  flen := lc
  ilen := li
  mks := fun c cl fn h h2 hp => by
    obtain ⟨fd, ps, d⟩ := F.defs _ fn h2
    obtain ⟨m1, m2, m3, m4⟩ := F.make_ c cl h
    exact ⟨m1, m2, m3, j, FA cl.init, fd, ps, hi _ fn fd ps h2 d, hr.mono hj, m4 fn h2, d.bd hp⟩
  mkks := fun c cl fn np ks ds h h2 hm => by
    obtain ⟨fd, ps, d⟩ := F.defs _ fn h2
    obtain ⟨m1, m2, m3, m4⟩ := F.make_ c cl h
    obtain ⟨gV, gu, q1, q2⟩ := d.kw _ hm (show initOf P c = some cl.init by unfold initOf; rw [h]; rfl)
    exact ⟨m1, m2, m3, j, FA cl.init, fd, ps, gV, gu, hi _ fn fd ps h2 d, hr.mono hj, m4 fn h2, q1, q2⟩
  mts := fun c cl m f fn nm h hm h2 hp hs => by
    obtain ⟨fd, ps, d⟩ := F.defs f fn h2
    obtain ⟨m1, m2, m3, m4⟩ := F.make_ c cl h
    exact ⟨F.cls c m2, k, FA f, fd, ps, hc f fn fd ps h2 d, hr, F.meth_ c cl m f nm h hm hs, d.bd hp⟩
  globs := F.globs
  free := F.free
  sym := F.sym
  inj := F.inj
  cls := F.cls
  noat := F.noat
theorem all_run (F : PF C P w K mg FA) {M : Sm} {k j : Nat} (hj : j + 1 ≤ k) (hc : All C P prog w K mg base FA k M.call) (hi : All C P prog w K mg base FA j M.init)
    (lc : ∀ f fn, P.fns[f]? = some fn → ∀ ds : List D, ds.length ≠ fn.ps → ∀ S, M.call f ds S = .stuck) (li : ∀ f fn, P.fns[f]? = some fn → ∀ ds : List D, ds.length ≠ fn.ps → ∀ S, M.init f ds S = .stuck) : All C P prog w K mg base FA (k + 1) (runF P M) := fun i fn fd ps h d => by
  obtain ⟨N, x, qual, params, body, sc, dvs, kws, F1, S, h1, h2⟩ := d.ex
  exact fn_ok F1 S h h1 d.np h2 fun A hr => gw_of F hj hc hi lc li hr
theorem all_sm (F : PF C P w K mg FA) : ∀ d, All C P prog w K mg base FA (d + 1) (sm P d).call ∧ All C P prog w K mg base FA d (sm P d).init
  | 0 => ⟨all_stuck 1, all_stuck 0⟩
  | d + 1 => by
    obtain ⟨h1, h2⟩ := all_sm F d
    exact ⟨all_run F (Nat.le_refl _) h1 h2 (fun f fn h => sm_len d h) (fun f fn h => sm_leni d h), h1⟩
end
/-! ### the facts by the head -/
def symF (syms : List Str) (k : Nat) : Str := match syms[k]? with
  | some s => s
  | none => ⟨Array.replicate (k + 10000) 65⟩
theorem symF_inj {syms : List Str} (nd : syms.Nodup) (hl : ∀ s ∈ syms, s.cps.size < 10000) (f g : Nat) (h : symF syms f = symF syms g) : f = g := by
  unfold symF at h
  cases hf : syms[f]? with
  | none =>
    cases hg : syms[g]? with
    | none =>
      rw [hf, hg] at h
      have := congrArg (fun s : Str => s.cps.size) h
      simp at this; exact this
    | some b =>
      rw [hf, hg] at h
      have := congrArg (fun s : Str => s.cps.size) h
      simp at this
      have := hl b (List.mem_of_getElem? hg)
      omega
  | some a =>
    cases hg : syms[g]? with
    | none =>
      rw [hf, hg] at h
      have := congrArg (fun s : Str => s.cps.size) h
      simp at this
      have := hl a (List.mem_of_getElem? hf)
      omega
    | some b =>
      rw [hf, hg] at h
      have h : a = b := h
      subst h
      have l1 := (List.getElem?_eq_some_iff.mp hf).1
      have l2 := (List.getElem?_eq_some_iff.mp hg).1
      rw [List.getElem?_eq_getElem l1] at hf
      rw [List.getElem?_eq_getElem l2] at hg
      exact (List.getElem_inj nd).mp ((Option.some.inj hf).trans (Option.some.inj hg).symm)
/-! ### data of the module -/
mutual
def relD (K : PySem.W.Frag) : D → Value → Bool
  | .non, u => decide (u = .none)
  | .bl b, u => decide (u = .bool b)
  | .int i, u => match u with
    | .int j _ => decide (j = i)
    | _ => false
  | .str s, u => match u with
    | .str z _ => decide (z = s)
    | _ => false
  | .tup xs, u => match u with
    | .ref a => (match K.lookup a with
      | some ⟨.type c, _, .seq its _, _⟩ => decide (c = "tuple") && decide (its.size ≤ sizeLine) && relDs K xs its.toList
      | _ => false)
    | _ => false
  | .ref _, _ => false
  | .new _, _ => false
termination_by structural d => d
def relDs (K : PySem.W.Frag) : List D → List Value → Bool
  | [], us => us.isEmpty
  | x :: xs, us => match us with
    | u :: us => relD K x u && relDs K xs us
    | [] => false
termination_by structural d => d
end
mutual
theorem relD_ok {C : Cxt} : ∀ (d : D) (u : Value), relD C.K d u = true → ∃ v, RelV v u ∧ ∀ H L, Rep C H L d v []
  | .non, u, h => by
    have := of_decide_eq_true h
    subst this
    exact ⟨.non, rfl, fun _ _ => .non⟩
  | .bl b, u, h => by
    have := of_decide_eq_true h
    subst this
    exact ⟨.bl b, rfl, fun _ _ => .bl b⟩
  | .int i, u, h => by
    cases u with
    | int j t =>
      have := of_decide_eq_true h
      subst this
      exact ⟨.int j, ⟨t, rfl⟩, fun _ _ => .int j⟩
    | _ => cases h
  | .str s, u, h => by
    cases u with
    | str z t =>
      have := of_decide_eq_true h
      subst this
      exact ⟨.str z, ⟨t, rfl⟩, fun _ _ => .str z⟩
    | _ => cases h
  | .tup xs, u, h => by
    cases u with
    | ref a =>
      have h' : (match C.K.lookup a with
      | some ⟨.type c, _, .seq its _, _⟩ => decide (c = "tuple") && decide (its.size ≤ sizeLine) && relDs C.K xs its.toList
      | _ => false) = true := h
      cases q : C.K.lookup a with
      | none => rw [q] at h'; cases h'
      | some o =>
        obtain ⟨oc, od, dt, osl⟩ := o
        rw [q] at h'
        cases oc with
        | type c =>
          cases dt with
          | seq its n =>
            simp only [Bool.and_eq_true, decide_eq_true_eq] at h'
            obtain ⟨⟨h1, h2⟩, h3⟩ := h'
            obtain ⟨vs, r1, r2⟩ := relDs_ok xs its.toList h3
            exact ⟨.ref a, rfl, fun H L => .tup (.inr ⟨_, its, n, q, congrArg Value.type h1, rfl, h2, r1⟩) (r2 H L)⟩
          | _ => cases h'
        | _ => cases dt <;> cases h'
    | _ => cases h
  | .ref _, _, h => by cases h
  | .new _, _, h => by cases h
theorem relDs_ok {C : Cxt} : ∀ (d : List D) (u : List Value), relDs C.K d u = true → ∃ v, Vals v u ∧ ∀ H L, Reps C H L d v []
  | [], us, h => by
    cases us with
    | nil => exact ⟨[], .nil, fun _ _ => .nil⟩
    | cons _ _ => cases h
  | x :: xs, us, h => by
    cases us with
    | nil => cases h
    | cons u us =>
      have h' : (relD C.K x u && relDs C.K xs us) = true := h
      rw [Bool.and_eq_true] at h'
      obtain ⟨v, r1, r2⟩ := relD_ok x u h'.1
      obtain ⟨vs, r3, r4⟩ := relDs_ok xs us h'.2
      exact ⟨v :: vs, .cons r1 r3, fun H L => .cons (r2 H L) (r4 H L)⟩
end
def globB (K : PySem.W.Frag) (g : Str × D) : Bool := match PySem.W.nsIn K mainGlobals g.1 with
  | some (some u) => relD K g.2 u
  | _ => false
/-- no list of the module is reached -/
def noL (K : PySem.W.Frag) : Bool := K.all fun p => match p.2.cls with
  | .type c => decide (c ≠ "list")
  | _ => true
theorem noL_ok {K : PySem.W.Frag} (h : noL K = true) {a : Addr} {o : Obj} (e : K.lookup a = some o) : o.cls ≠ .type "list" := by
  have hm : (a, o) ∈ K := by
    clear h
    induction K with
    | nil => cases e
    | cons p r ih =>
      obtain ⟨b, ob⟩ := p
      rw [List.lookup_cons] at e
      cases q : a == b with
      | true =>
        rw [q] at e
        cases e
        rw [beq_iff_eq.mp q]
        exact List.mem_cons_self
      | false =>
        rw [q] at e
        exact List.mem_cons_of_mem _ (ih e)
  have := List.all_eq_true.mp h _ hm
  intro hc
  simp only [hc] at this
  simp at this
def exN (P : Prog) (K : PySem.W.Frag) : Bool := noL K && P.globs.all (globB K)
def faOf (P : Prog) : List He.Fa := (P.fns.filterMap fun f => if f.name.cps.isEmpty = true then none else some (.glo f.name)) ++ (P.free.map .free ++ P.cls.flatMap fun c => .glo c.name :: .cls c.name :: .mkr c.name :: ((P.syms.take P.nf).map (.noat c.name) ++ c.meths.map fun m => .meth c.name (P.syms.getD m.1 default)))
abbrev AlN : Type := He.AlD × Bool
def obsN (n : Nat) (P : Prog) (dn : List He.DefD) (g : Addr → Option Obj) : AlN := (He.obsDG n (faOf P) dn g, exN P (He.frG g (He.asD g n)))
def valN (dn : List He.DefD) : AlN := (He.valD dn, true)
def hookN (n : Nat) (P : Prog) (dn : List He.DefD) : PySem.W.Hook where
  α := AlN
  obs := fun s => obsN n P dn s.heap.get?
  val := fun _ => valN dn
  says := fun _ h => ∃ K : PySem.W.Frag, K.In h ∧ He.SaysD (faOf P) dn K ∧ exN P K = true
  of := fun _ _ e => ⟨_, He.frG_in, congrArg Prod.fst e, congrArg Prod.snd e⟩
  keeps := fun _ _ _ ⟨K, hK, c⟩ k => ⟨K, PySem.W.Frag.In.keeps hK k, c⟩
theorem obsN_eq {n : Nat} {P : Prog} {dn : List He.DefD} {g : Addr → Option Obj} {s : Shared} (h : ∀ a, g a = s.heap.get? a) : obsN n P dn g = (hookN n P dn).obs s := by
  have e : g = s.heap.get? := funext h
  rw [e] <;> rfl
/-! ### the tables agree -/
def tabB (P : Prog) (dn : List He.DefD) : Bool :=
  ((P.fns.zip dn).all fun p => p.1.name.cps.isEmpty || (decide (p.2.at_ = (p.1.name, none)) && ((p.1.name == ("__debug__" : Str)) == false))) &&
  (P.cls.all fun c => ((c.name == ("__debug__" : Str)) == false) && (match dn[c.init]? with
    | some d => decide (d.at_ = (c.name, some ("__init__" : Str)))
    | none => true) && c.meths.all fun m => match dn[m.2]?, P.syms[m.1]? with
    | some d, some nm => decide (d.at_ = (c.name, some nm))
    | _, _ => false) &&
  decide (P.syms.Nodup) && (P.syms.all fun s => decide (s.cps.size < 10000)) && decide (dn.length = P.fns.length)
def cxtN (P : Prog) (K : PySem.W.Frag) : Cxt := ⟨K, fun c => match P.cls[c]? with
  | some cl => He.ga K cl.name
  | none => 0, P.cls.length, symF P.syms⟩
def faN (dn : List He.DefD) (K : PySem.W.Frag) (i : Nat) : Addr := match dn[i]? with
  | some d => He.fAd K d.at_
  | none => 0
/-- what is to be shown of each def -/
def DefAll (C : Cxt) (P : Prog) (K : PySem.W.Frag) (FA : Nat → Addr) : Nat → List Fn → Prop
  | _, [] => True
  | i, fn :: r => (∃ fd ps, DefOk C P K (FA i) i fn fd ps) ∧ DefAll C P K FA (i + 1) r
theorem DefAll.at_ {C : Cxt} {P : Prog} {K : PySem.W.Frag} {FA : Nat → Addr} : ∀ {l : List Fn} {j i : Nat} {fn : Fn}, DefAll C P K FA j l → l[i]? = some fn → ∃ fd ps, DefOk C P K (FA (j + i)) (j + i) fn fd ps
  | [], j, i, fn, _, h => by simp at h
  | f :: r, j, 0, fn, h, e => by
    simp at e; subst e
    exact h.1
  | f :: r, j, i + 1, fn, h, e => by
    have := DefAll.at_ h.2 (i := i) (fn := fn) (by simpa using e)
    rw [show j + 1 + i = j + (i + 1) by omega] at this
    exact this
theorem pf_of {P : Prog} {dn : List He.DefD} {w : World} {K : PySem.W.Frag} {mg : Str → Option Value} {h : Heap} (X : K.In h) (G : h.Ns mainGlobals mg) (sy : He.SaysD (faOf P) dn K) (ex : exN P K = true) (tb : tabB P dn = true)
    (da : DefAll (cxtN P K) P K (faN dn K) 0 P.fns) : PF (cxtN P K) P w K mg (faN dn K) := by
  unfold tabB at tb
  simp only [Bool.and_eq_true, decide_eq_true_eq] at tb
  obtain ⟨⟨⟨⟨t1, t2⟩, t3⟩, t4⟩, t5⟩ := tb
  unfold exN at ex
  rw [Bool.and_eq_true] at ex
  have CA : ∀ {c : Nat} {cl : Cls'}, P.cls[c]? = some cl → (cxtN P K).CA c = He.ga K cl.name := fun {c cl} h => by
    show (match P.cls[c]? with
      | some cl => He.ga K cl.name
      | none => 0) = _
    rw [h]
  have inC : ∀ {c : Nat} {cl : Cls'} {f : He.Fa}, P.cls[c]? = some cl → f ∈ (He.Fa.glo cl.name :: .cls cl.name :: .mkr cl.name :: ((P.syms.take P.nf).map (.noat cl.name) ++ cl.meths.map fun m => .meth cl.name (P.syms.getD m.1 default))) → f ∈ faOf P := fun {c cl f} h hf => by
    unfold faOf
    exact List.mem_append_right _ (List.mem_append_right _ (List.mem_flatMap.mpr ⟨cl, List.mem_of_getElem? h, hf⟩))
  have lt : ∀ {c : Nat} {cl : Cls'}, P.cls[c]? = some cl → c < P.cls.length := fun h => (List.getElem?_eq_some_iff.mp h).1
  have ofLt : ∀ {c : Nat}, c < (cxtN P K).nc → ∃ cl, P.cls[c]? = some cl := fun {c} h => ⟨P.cls[c]'h, List.getElem?_eq_getElem h⟩
  refine ⟨rfl, fun i fn h => ?_, fun i fn h hn => ?_, fun c cl h => ?_, fun c cl m f nm h hm hs => ?_, fun k g h => ?_, fun x hx => ?_, fun k nm h => ?_, ?_, fun c hc => ?_, fun f nm h hf c hc => ?_⟩
  · have := DefAll.at_ da h
    rwa [Nat.zero_add] at this
  · have hl := (List.getElem?_eq_some_iff.mp h).1
    obtain ⟨d, hd⟩ : ∃ d, dn[i]? = some d := ⟨dn[i]'(by omega), List.getElem?_eq_getElem (by omega)⟩
    have hz : (P.fns.zip dn)[i]? = some (fn, d) := List.getElem?_zip_eq_some.mpr ⟨h, hd⟩
    have q := List.all_eq_true.mp t1 _ (List.mem_of_getElem? hz)
    simp only [hn, Bool.false_or, Bool.and_eq_true, decide_eq_true_eq] at q
    refine ⟨beqF q.2, ?_⟩
    have hf : He.Fa.glo fn.name ∈ faOf P := by
      unfold faOf
      refine List.mem_append_left _ (List.mem_filterMap.mpr ⟨fn, List.mem_of_getElem? h, ?_⟩)
      rw [if_neg (by rw [hn]; simp)]
    have := He.glo_ok X G (sy.facts hf)
    rw [this]
    show some (Value.ref (He.ga K fn.name)) = some (.ref (match dn[i]? with
      | some d => He.fAd K d.at_
      | none => 0))
    rw [hd]
    show _ = some (Value.ref (He.fAd K d.at_))
    rw [q.1]; rfl
  · have q := List.all_eq_true.mp t2 _ (List.mem_of_getElem? h)
    simp only [Bool.and_eq_true] at q
    refine ⟨beqF q.1.1, lt h, ?_, fun fn h2 => ?_⟩
    · rw [CA h]
      exact He.glo_ok X G (sy.facts (inC h (by simp)))
    · have hl := (List.getElem?_eq_some_iff.mp h2).1
      obtain ⟨d, hd⟩ : ∃ d, dn[cl.init]? = some d := ⟨dn[cl.init]'(by omega), List.getElem?_eq_getElem (by omega)⟩
      have q2 := q.1.2
      rw [hd] at q2
      have q2 : d.at_ = (cl.name, some ("__init__" : Str)) := of_decide_eq_true q2
      have := He.mkr_ok (sy.facts (inC h (f := .mkr cl.name) (by simp)))
      rw [CA h]
      show Mk K (He.ga K cl.name) (match dn[cl.init]? with
      | some d => He.fAd K d.at_
      | none => 0)
      rw [hd]
      show Mk K (He.ga K cl.name) (He.fAd K d.at_)
      rw [q2]
      exact this
  · have q := List.all_eq_true.mp t2 _ (List.mem_of_getElem? h)
    simp only [Bool.and_eq_true] at q
    have q2 := List.all_eq_true.mp q.2 _ hm
    dsimp only at q2
    cases hd : dn[f]? with
    | none => rw [hd] at q2; cases q2
    | some d =>
      rw [hd, hs] at q2
      have q2 : d.at_ = (cl.name, some nm) := of_decide_eq_true q2
      have hg : P.syms.getD m default = nm := by rw [List.getD_eq_getElem?_getD, hs]; rfl
      have := He.meth_ok (sy.facts (inC h (f := .meth cl.name nm) (by
        refine List.mem_cons_of_mem _ (List.mem_cons_of_mem _ (List.mem_cons_of_mem _ (List.mem_append_right _ (List.mem_map.mpr ⟨(m, f), hm, ?_⟩))))
        show He.Fa.meth cl.name (P.syms.getD m default) = _
        rw [hg])))
      rw [CA h]
      show Meth K (He.ga K cl.name) nm (match dn[f]? with
      | some d => He.fAd K d.at_
      | none => 0)
      rw [hd]
      show Meth K (He.ga K cl.name) nm (He.fAd K d.at_)
      rw [q2]
      exact this
  · have q := List.all_eq_true.mp ex.2 _ (List.mem_of_getElem? h)
    unfold globB at q
    cases e : PySem.W.nsIn K mainGlobals g.1 with
    | none => rw [e] at q; cases q
    | some o =>
      rw [e] at q
      cases o with
      | none => cases q
      | some u =>
        obtain ⟨v, r1, r2⟩ := relD_ok (C := cxtN P K) g.2 u q
        exact ⟨v, u, PySem.W.mg_of X G e, r1, r2⟩
  · refine He.free_ok X G (sy.facts ?_)
    unfold faOf
    exact List.mem_append_right _ (List.mem_append_left _ (List.mem_map.mpr ⟨x, hx, rfl⟩))
  · show symF P.syms k = nm
    unfold symF
    rw [h]
  · exact symF_inj t3 fun s hs => by
      have := List.all_eq_true.mp t4 s hs
      exact of_decide_eq_true this
  · obtain ⟨cl, h⟩ := ofLt hc
    rw [CA h]
    exact He.cls_ok (sy.facts (inC h (by simp)))
  · obtain ⟨cl, hcl⟩ := ofLt hc
    rw [CA hcl]
    refine He.noat_ok (sy.facts (inC hcl (f := .noat cl.name nm) ?_))
    refine List.mem_cons_of_mem _ (List.mem_cons_of_mem _ (List.mem_cons_of_mem _ (List.mem_append_left _ (List.mem_map.mpr ⟨nm, ?_, rfl⟩))))
    have : (P.syms.take P.nf)[f]? = some nm := by rw [List.getElem?_take_of_lt hf]; exact h
    exact List.mem_of_getElem? this
theorem kw_none {C : Cxt} {P : Prog} {K : PySem.W.Frag} {i : Nat} {fd : FuncData} {ps : List Str} (h : (P.kws.all fun q => decide (initOf P q.1 ≠ some i)) = true) : ∀ q ∈ P.kws, initOf P q.1 = some i → KwOk C K fd ps q.2.1 q.2.2.1 q.2.2.2 := fun q hq e =>
  absurd e (of_decide_eq_true (List.all_eq_true.mp h q hq))
/-- every parameter is given, the last ones by keywords -/
theorem kw_full {C : Cxt} {K : PySem.W.Frag} {x qual : Str} {params : Arguments} {body : List Stmt} {scope : Scope} {kws : List (Str × V)} {f : Addr} {fd : FuncData} {ps ks : List Str} {np : Nat} {ds : List (Nat ⊕ D)} (F : FunD K x qual params body scope [] kws f fd)
    (hd : ∀ ys : List D, ys.length = ks.length → kwD ds ys = ys)
    (h : ∀ (kV doc pm : Value) (an : Option Addr) (cdv ct : Value) (us ws : List Value), us.length = np + 1 → ws.length = ks.length → bindArgs (PySem.W.fnOf x qual params body scope .none kV doc pm an cdv ct) ⟨us, ks.zip ws⟩ = pure (ps.zip (us ++ ws))) : KwOk C K fd ps np ks ds := by
  obtain ⟨oc, od, dV, kV, doc, pm, an, cdv, ct, osl, rfl, lk, hcd, hD, hK⟩ := F.ex
  rcases hD with ⟨_, rfl⟩ | ⟨e, _⟩
  · refine ⟨fun vs zs => vs ++ zs, fun us ws => us ++ ws, ⟨fun s us ws _ h1 h2 => .of_eq (h kV doc pm an cdv ct us ws h1 h2), fun r1 r2 => vals_app r1 r2⟩, fun H L xs ys vs zs h1 h2 r1 r2 v => ⟨vs ++ zs, rfl, ?_⟩⟩
    rw [hd ys h2]
    have := r1.append r2
    rwa [List.append_nil] at this
  · exact absurd rfl e
/-- keyword-only parameters that all lack -/
theorem kw_miss {C : Cxt} {K : PySem.W.Frag} {x qual : Str} {params : Arguments} {body : List Stmt} {scope : Scope} {kws : List (Str × V)} {f : Addr} {fd : FuncData} {ps : List Str} {np : Nat} {ds : List (Nat ⊕ D)} (ms : List (Str × V)) (dms : List D) (F : FunD K x qual params body scope [] kws f fd)
    (hk : kws ≠ []) (hms : ∀ q ∈ ms, q ∈ kws) (hr : ∀ H L, Reps C H L dms (ms.map (·.2)) []) (hd : kwD ds [] = dms)
    (h : ∀ (D : Addr) (doc pm : Value) (an : Option Addr) (cdv ct : Value) (us mv : List Value), us.length = np + 1 → mv.length = ms.length →
      KwChain D ((ms.map (·.1)).zip mv) (bindArgs (PySem.W.fnOf x qual params body scope .none (.ref D) doc pm an cdv ct) ⟨us, []⟩) (ps.zip (us ++ mv))) : KwOk C K fd ps np [] ds := by
  obtain ⟨mv, kb⟩ := F.kbinds0 (np + 1) [] ms (fun us mv _ => us ++ mv) hk hms (fun r1 r2 _ => vals_app r1 r2) (fun D doc pm an cdv ct us mv ws l1 l2 l3 => by
    cases ws with
    | nil => exact h D doc pm an cdv ct us mv l1 l2
    | cons _ _ => cases l3)
  refine ⟨_, _, kb, fun H L xs ys vs zs h1 h2 r1 r2 v => ⟨vs ++ ms.map (·.2), rfl, ?_⟩⟩
  cases ys with
  | cons _ _ => cases h2
  | nil =>
    rw [hd]
    have := r1.append (hr H L)
    rwa [List.append_nil] at this
/-! ### the law -/
/-- the law's evaluator at a script -/
def lawRun (P : Prog) (d i : Nat) (ns : List Int) : Rs D := (sm P d).call i [.ref 0] [.frz (ns.map .int)]
theorem reps_ints {C : Cxt} {H : Hp} {L : List Addr} : ∀ ns : List Int, Reps C H L (ns.map D.int) (ns.map V.int) []
  | [] => .nil
  | n :: r => .cons (.int n) (reps_ints r)
theorem law_sp {P : Prog} {K : PySem.W.Frag} {d i : Nat} {ns : List Int} {H : Hp} {a : Addr} (hn : noL K = true) (hO : Only H) (hS : SqL K H a (ns.map V.int)) (h : ∃ S, lawRun P d i ns = .ok (.bl true) S) :
    spF (cxtN P K) R0 1 ((sm P d).call i) [.ref a] H (fun v _ => v = .bl true) fun _ _ _ => False := by
  have hf : ∃ ob, H a = some (.frz ob (.lst (ns.map V.int))) := by
    rcases hS with (h | ⟨o, h⟩) | ⟨o, its, n, h, hc, _⟩
    · rcases hO a with q | ⟨o, xs, q⟩
      · rw [h] at q; cases q
      · rw [h] at q; cases q
    · exact ⟨o, h⟩
    · exact absurd hc (noL_ok hn h)
  obtain ⟨ob, hf⟩ := hf
  refine ⟨rfl, [a], [.frz (ns.map .int)], [.ref 0], ⟨rfl, by simp, fun n o b h1 h2 => ?_⟩, .cons (.ref rfl) .nil, ?_⟩
  · cases n with
    | zero =>
      simp at h1 h2
      subst h1; subst h2
      exact ⟨ob, _, hf, reps_ints ns⟩
    | succ n => simp at h1
  · obtain ⟨S, e⟩ := h
    have e : (sm P d).call i [.ref 0] [.frz (ns.map .int)] = .ok (.bl true) S := e
    rw [e]
    intro v H' L' F p
    exact p.rep.bl_inv.1
end Nv
/-! Nv: reckoning with the evaluator. -/
namespace Nv
open PySem PySem.Spec PyProof.Rows L2
/-- the result is one, and Q holds of it -/
def wp {α : Type} (r : Rs α) (Q : α → Store → Prop) : Prop := match r with
  | .ok a S => Q a S
  | _ => False
section
variable {α β : Type} {a : α} {S : Store} {Q Q' : α → Store → Prop}
theorem wp_ok : wp (.ok a S) Q = Q a S := rfl
theorem wp_bind {r : Rs α} {f : α → Store → Rs β} {Q : β → Store → Prop} : wp (r.bind f) Q = wp r (fun a S => wp (f a S) Q) := by cases r <;> rfl
theorem wp_stuck : wp (.stuck : Rs α) Q = False := rfl
def optQ (o : Option α) (Q : α → Prop) : Prop := match o with
  | some a => Q a
  | none => False
theorem optQ_some {a : α} {Q : α → Prop} : optQ (some a) Q = Q a := rfl
theorem wp_of {o : Option α} : wp (Rs.of o S) Q = optQ o fun a => Q a S := by cases o <;> rfl
theorem wp_noex {r : Rs α} : wp r.noex Q = wp r Q := by cases r <;> rfl
theorem wp_mono {r : Rs α} (h : wp r Q) (hq : ∀ a S, Q a S → Q' a S) : wp r Q' := by
  cases r with
  | ok a S => exact hq a S h
  | ex x S => exact h
  | stuck => exact h
theorem wp_if {c : Prop} [Decidable c] {x y : Rs α} : wp (if c then x else y) Q = if c then wp x Q else wp y Q := by by_cases h : c <;> simp [h]
theorem wp_ex {r : Rs α} (h : wp r Q) : ∃ a S, r = .ok a S ∧ Q a S := by
  cases r with
  | ok a S => exact ⟨a, S, rfl, h⟩
  | ex x S => exact h.elim
  | stuck => exact h.elim
end
section
variable {P : Prog} {M : Sm} {ρ : AEnv} {S : Store}
/-! ### statements -/
theorem wp_nil {Q : Fl × AEnv → Store → Prop} (h : Q (.nx, ρ) S) : wp (evalSs P M [] ρ S) Q := h
theorem wp_cons {s : Nv.St} {r : List Nv.St} {Q : Fl × AEnv → Store → Prop} (h : wp (evalS P M s ρ S) fun q S1 => match q.1 with
    | .nx => wp (evalSs P M r q.2 S1) Q
    | .rt d => Q (.rt d, q.2) S1
    | .bk => Q (.bk, q.2) S1
    | .ct => Q (.ct, q.2) S1) : wp (evalSs P M (s :: r) ρ S) Q := by
  show wp ((evalS P M s ρ S).bind fun q S1 => match q.1 with
    | .nx => evalSs P M r q.2 S1
    | _ => .ok q S1) Q
  rw [wp_bind]
  refine wp_mono h fun q S1 z => ?_
  obtain ⟨fl, ρ1⟩ := q
  cases fl <;> exact z
/-- a test -/
def tstD (d : D) (S : Store) (Q : Bool → Prop) : Prop := optQ (truD d S) Q
theorem wp_S_ite {c : E} {a b : List Nv.St} {Q : Fl × AEnv → Store → Prop} (h : wp (evalE P M c ρ S) fun d S1 => tstD d S1 fun k => (k = true → wp (evalSs P M a ρ S1) Q) ∧ (k = false → wp (evalSs P M b ρ S1) Q)) : wp (evalS P M (.ite c a b) ρ S) Q := by
  show wp ((evalE P M c ρ S).bind fun x S1 => match truD x S1 with
    | some true => evalSs P M a ρ S1
    | some false => evalSs P M b ρ S1
    | none => .stuck) Q
  rw [wp_bind]
  refine wp_mono h fun d S1 z => ?_
  unfold tstD optQ at z
  cases hk : truD d S1 with
  | none => rw [hk] at z; exact z.elim
  | some k =>
    rw [hk] at z
    cases k with
    | true => exact z.1 rfl
    | false => exact z.2 rfl
theorem wp_S_set {i : Nat} {e : E} {Q : Fl × AEnv → Store → Prop} (h : wp (evalE P M e ρ S) fun d S1 => Q (.nx, ρ.set i (some (mat d S1).1)) (mat d S1).2) : wp (evalS P M (.set i e) ρ S) Q := by
  show wp ((evalE P M e ρ S).bind fun x S1 => (storeD i x ρ S1).bind fun ρ1 S2 => .ok (.nx, ρ1) S2) Q
  rw [wp_bind]
  exact wp_mono h fun d S1 z => z
theorem wp_S_expr {e : E} {Q : Fl × AEnv → Store → Prop} (h : wp (evalE P M e ρ S) fun _ S1 => Q (.nx, ρ) S1) : wp (evalS P M (.expr e) ρ S) Q := by
  show wp ((evalE P M e ρ S).bind fun _ S1 => .ok (.nx, ρ) S1) Q
  rw [wp_bind]
  exact h
theorem wp_S_ret {e : E} {Q : Fl × AEnv → Store → Prop} (h : wp (evalE P M e ρ S) fun d S1 => Q (.rt d, ρ) S1) : wp (evalS P M (.ret e) ρ S) Q := by
  show wp ((evalE P M e ρ S).bind fun x S1 => .ok (.rt x, ρ) S1) Q
  rw [wp_bind]
  exact h
theorem wp_S_retN {Q : Fl × AEnv → Store → Prop} (h : Q (.rt .non, ρ) S) : wp (evalS P M .retN ρ S) Q := h
theorem wp_S_unp {g : Nv.G} {e : E} {Q : Fl × AEnv → Store → Prop} (h : wp (evalE P M e ρ S) fun d S1 => wp (evalG g d ρ S1) fun ρ1 S2 => Q (.nx, ρ1) S2) : wp (evalS P M (.unp g e) ρ S) Q := by
  show wp ((evalE P M e ρ S).bind fun x S1 => (evalG g x ρ S1).bind fun ρ1 S2 => .ok (.nx, ρ1) S2) Q
  simp only [wp_bind]
  exact h
theorem wp_S_par {is : List Nat} {es : List E} {Q : Fl × AEnv → Store → Prop} (h : wp (evalEs P M es ρ S) fun xs S1 => Q (.nx, parD is (mats xs S1).1 ρ) (mats xs S1).2) : wp (evalS P M (.par is es) ρ S) Q := by
  show wp ((evalEs P M es ρ S).bind fun xs S1 => .ok (.nx, parD is (mats xs S1).1 ρ) (mats xs S1).2) Q
  rw [wp_bind]
  exact h
theorem wp_S_attr {o : E} {f : Nat} {e : E} {Q : Fl × AEnv → Store → Prop} (h : wp (evalE P M e ρ S) fun y S1 => wp (evalE P M o ρ S1) fun x S2 => optQ (setAttr x f (mat y S2).1 (mat y S2).2) fun S3 => Q (.nx, ρ) S3) : wp (evalS P M (.attr o f e) ρ S) Q := by
  show wp ((evalE P M e ρ S).bind fun y S1 => (evalE P M o ρ S1).bind fun x S2 => (Rs.of (setAttr x f (mat y S2).1 (mat y S2).2) S2).bind fun S3 _ => .ok (.nx, ρ) S3) Q
  simp only [wp_bind, wp_of, wp_ok]
  exact h
theorem wp_S_sub {o i : E} {e : E} {Q : Fl × AEnv → Store → Prop} (h : wp (evalE P M e ρ S) fun y S1 => wp (evalE P M o ρ S1) fun x S2 => wp (evalE P M i ρ S2) fun k S3 => optQ (setSub x k (mat y S3).1 (mat y S3).2) fun S4 => Q (.nx, ρ) S4) : wp (evalS P M (.sub o i e) ρ S) Q := by
  show wp ((evalE P M e ρ S).bind fun y S1 => (evalE P M o ρ S1).bind fun x S2 => (evalE P M i ρ S2).bind fun k S3 => (Rs.of (setSub x k (mat y S3).1 (mat y S3).2) S3).bind fun S4 _ => .ok (.nx, ρ) S4) Q
  simp only [wp_bind, wp_of, wp_ok]
  exact h
theorem wp_S_for {g : Nv.G} {it : Nv.It} {b : List Nv.St} {gc : Option (List Nat)} {Q : Fl × AEnv → Store → Prop} (h : wp (evalIt P M it ρ S) fun r S1 => wp (forF r.2 gc (evalG g) (evalSs P M b) r.1 ρ S1) Q) : wp (evalS P M (.forr g it b gc) ρ S) Q := by
  show wp ((evalIt P M it ρ S).bind fun r S1 => forF r.2 gc (evalG g) (evalSs P M b) r.1 ρ S1) Q
  rw [wp_bind]
  exact h
theorem wp_S_wh {c : E} {b : List Nv.St} {Q : Fl × AEnv → Store → Prop} (h : wp (whF (truF (evalE P M c)) (evalSs P M b) WF ρ S) Q) : wp (evalS P M (.wh c b) ρ S) Q := h
/-! ### loops -/
theorem wp_forF {gu : Option (Nat × List D)} {gc : Option (List Nat)} {asg : D → AEnv → Store → Rs AEnv} {body : AEnv → Store → Rs (Fl × AEnv)} {items : List D} {Q : Fl × AEnv → Store → Prop} (I : Nat → AEnv → Store → Prop) (h0 : I 0 ρ S)
    (hg : ∀ i ρ S, I i ρ S → guardOk gu S = true)
    (step : ∀ i d ρ S, items[i]? = some d → I i ρ S → wp (asg d ρ S) fun ρ1 S1 => wp (body ρ1 S1) fun r S2 => match r.1 with
      | .nx => wp (turnEnd gc S r.2 S2) (I (i + 1))
      | .ct => wp (turnEnd gc S r.2 S2) (I (i + 1))
      | .bk => Q (.nx, r.2) S2
      | .rt d => Q (.rt d, r.2) S2)
    (fin : ∀ ρ S, I items.length ρ S → Q (.nx, ρ) S) : wp (forF gu gc asg body items ρ S) Q := by
  suffices h : ∀ (k : Nat) (ρ : AEnv) (S : Store), I k ρ S → k ≤ items.length → wp (forF gu gc asg body (items.drop k) ρ S) Q by
    have := h 0 ρ S h0 (Nat.zero_le _)
    rwa [List.drop_zero] at this
  intro k
  generalize hm : items.length - k = m
  induction m generalizing k with
  | zero =>
    intro ρ S hI hk
    have : k = items.length := by omega
    subst this
    rw [List.drop_length]
    show wp (if guardOk gu S = true then Rs.ok (.nx, ρ) S else .stuck) Q
    rw [if_pos (hg _ _ _ hI)]
    exact fin _ _ hI
  | succ m ih =>
    intro ρ S hI hk
    have hlt : k < items.length := by omega
    rw [List.drop_eq_getElem_cons hlt]
    show wp (if guardOk gu S = true then (asg items[k] ρ S).bind fun ρ1 S1 => (body ρ1 S1).bind fun r S2 => match r.1 with
      | .nx => (turnEnd gc S r.2 S2).bind fun ρ3 S3 => forF gu gc asg body (items.drop (k + 1)) ρ3 S3
      | .ct => (turnEnd gc S r.2 S2).bind fun ρ3 S3 => forF gu gc asg body (items.drop (k + 1)) ρ3 S3
      | .bk => .ok (.nx, r.2) S2
      | .rt d => .ok (.rt d, r.2) S2
    else .stuck) Q
    rw [if_pos (hg _ _ _ hI), wp_bind]
    refine wp_mono (step k items[k] ρ S (List.getElem?_eq_getElem hlt) hI) fun ρ1 S1 z => ?_
    rw [wp_bind]
    refine wp_mono z fun r S2 z => ?_
    obtain ⟨fl, ρ2⟩ := r
    cases fl with
    | nx =>
      show wp ((turnEnd gc S ρ2 S2).bind fun ρ3 S3 => forF gu gc asg body (items.drop (k + 1)) ρ3 S3) Q
      rw [wp_bind]
      exact wp_mono z fun ρ3 S3 z => ih (k + 1) (by omega) ρ3 S3 z (by omega)
    | ct =>
      show wp ((turnEnd gc S ρ2 S2).bind fun ρ3 S3 => forF gu gc asg body (items.drop (k + 1)) ρ3 S3) Q
      rw [wp_bind]
      exact wp_mono z fun ρ3 S3 z => ih (k + 1) (by omega) ρ3 S3 z (by omega)
    | bk => exact z
    | rt d => exact z
theorem wp_whF {c : AEnv → Store → Rs Bool} {body : AEnv → Store → Rs (Fl × AEnv)} {Q : Fl × AEnv → Store → Prop} (I : Nat → AEnv → Store → Prop)
    (step : ∀ k ρ S, I k ρ S → wp (c ρ S) fun b S1 => (b = true → wp (body ρ S1) fun r S2 => match r.1 with
      | .nx => ∃ j, j < k ∧ I j r.2 S2
      | .ct => ∃ j, j < k ∧ I j r.2 S2
      | .bk => Q (.nx, r.2) S2
      | .rt d => Q (.rt d, r.2) S2) ∧ (b = false → Q (.nx, ρ) S1)) : ∀ (n k : Nat) {ρ : AEnv} {S : Store}, I k ρ S → k < n → wp (whF c body n ρ S) Q
  | 0, k, ρ, S, _, h => by omega
  | n + 1, k, ρ, S, hI, hk => by
    show wp ((c ρ S).bind fun b S1 => match b with
      | true => (body ρ S1).bind fun r S2 => match r.1 with
        | .nx => whF c body n r.2 S2
        | .ct => whF c body n r.2 S2
        | .bk => .ok (.nx, r.2) S2
        | .rt d => .ok (.rt d, r.2) S2
      | false => .ok (.nx, ρ) S1) Q
    rw [wp_bind]
    refine wp_mono (step k ρ S hI) fun b S1 z => ?_
    cases b with
    | false => exact z.2 rfl
    | true =>
      show wp ((body ρ S1).bind fun r S2 => match r.1 with
        | .nx => whF c body n r.2 S2
        | .ct => whF c body n r.2 S2
        | .bk => .ok (.nx, r.2) S2
        | .rt d => .ok (.rt d, r.2) S2) Q
      rw [wp_bind]
      refine wp_mono (z.1 rfl) fun r S2 z => ?_
      obtain ⟨fl, ρ2⟩ := r
      cases fl with
      | nx => obtain ⟨j, hj, z⟩ := z; exact wp_whF I step n j z (by omega)
      | ct => obtain ⟨j, hj, z⟩ := z; exact wp_whF I step n j z (by omega)
      | bk => exact z
      | rt d => exact z
theorem wp_compF {gu : Option (Nat × List D)} {asg : D → AEnv → Store → Rs AEnv} {tst : AEnv → Store → Rs Bool} {elt : AEnv → Store → Rs D} {items : List D} {Q : List D → Store → Prop} (I : Nat → List D → Store → Prop) (h0 : I 0 [] S)
    (hg : ∀ i ys S, I i ys S → guardOk gu S = true)
    (step : ∀ i d ys S, items[i]? = some d → I i ys S → wp (asg d ρ S) fun ρ1 S1 => wp (tst ρ1 S1) fun b S2 => (b = true → wp (elt ρ1 S2) fun y S3 => I (i + 1) (ys ++ [y]) S3) ∧ (b = false → I (i + 1) ys S2))
    (fin : ∀ ys S, I items.length ys S → Q ys S) : wp (compF gu asg tst elt ρ items S) Q := by
  suffices h : ∀ (k : Nat) (ys : List D) (S : Store), I k ys S → k ≤ items.length → wp (compF gu asg tst elt ρ (items.drop k) S) fun zs S' => Q (ys ++ zs) S' by
    have := h 0 [] S h0 (Nat.zero_le _)
    rw [List.drop_zero] at this
    exact wp_mono this fun zs S' z => by rwa [List.nil_append] at z
  intro k
  generalize hm : items.length - k = m
  induction m generalizing k with
  | zero =>
    intro ys S hI hk
    have : k = items.length := by omega
    subst this
    rw [List.drop_length]
    show wp (if guardOk gu S = true then Rs.ok [] S else .stuck) _
    rw [if_pos (hg _ _ _ hI)]
    show Q (ys ++ []) S
    rw [List.append_nil]
    exact fin _ _ hI
  | succ m ih =>
    intro ys S hI hk
    have hlt : k < items.length := by omega
    rw [List.drop_eq_getElem_cons hlt]
    show wp (if guardOk gu S = true then (asg items[k] ρ S).bind fun ρ1 S1 => (tst ρ1 S1).bind fun b S2 => match b with
      | true => (elt ρ1 S2).bind fun y S3 => (compF gu asg tst elt ρ (items.drop (k + 1)) S3).bind fun ys S4 => .ok (y :: ys) S4
      | false => compF gu asg tst elt ρ (items.drop (k + 1)) S2
    else .stuck) _
    rw [if_pos (hg _ _ _ hI), wp_bind]
    refine wp_mono (step k items[k] ys S (List.getElem?_eq_getElem hlt) hI) fun ρ1 S1 z => ?_
    rw [wp_bind]
    refine wp_mono z fun b S2 z => ?_
    cases b with
    | false => exact ih (k + 1) (by omega) ys S2 (z.2 rfl) (by omega)
    | true =>
      show wp ((elt ρ1 S2).bind fun y S3 => (compF gu asg tst elt ρ (items.drop (k + 1)) S3).bind fun ys S4 => .ok (y :: ys) S4) _
      rw [wp_bind]
      refine wp_mono (z.1 rfl) fun y S3 z => ?_
      rw [wp_bind]
      refine wp_mono (ih (k + 1) (by omega) (ys ++ [y]) S3 z (by omega)) fun zs S4 z => ?_
      show Q (ys ++ y :: zs) S4
      rwa [List.append_assoc] at z
/-! ### calls -/
/-- what a def does, its end -/
def retQ (gc : Bool) (S0 : Store) (Q : D → Store → Prop) (q : Fl × AEnv) (S' : Store) : Prop := match q.1 with
  | .nx => wp (finF gc S0 .non S') Q
  | .rt d => wp (finF gc S0 d S') Q
  | _ => False
theorem wp_call {d i : Nat} {fn : Nv.Fn} {args : List D} {Q : D → Store → Prop} (h : P.fns[i]? = some fn) (hl : args.length = fn.ps) (hs : fn.ps ≤ fn.slots)
    (hb : wp (evalSs P (sm P d) fn.body (args.map some ++ List.replicate (fn.slots - fn.ps) none) S) (retQ fn.gc S Q)) : wp ((sm P (d + 1)).call i args S) Q := by
  show wp (runF P (sm P d) i args S) Q
  unfold runF
  rw [h]
  show wp (if args.length = fn.ps ∧ fn.ps ≤ fn.slots then
      (evalSs P (sm P d) fn.body (args.map some ++ List.replicate (fn.slots - fn.ps) none) S).bind fun q S' => match q.1 with
        | .nx => finF fn.gc S .non S'
        | .rt d => finF fn.gc S d S'
        | _ => .stuck
    else .stuck) Q
  rw [if_pos ⟨hl, hs⟩, wp_bind]
  refine wp_mono hb fun q S' z => ?_
  obtain ⟨fl, ρ⟩ := q
  cases fl <;> exact z
theorem wp_init {d i : Nat} {args : List D} {Q : D → Store → Prop} (h : wp ((sm P d).call i args S) Q) : wp ((sm P (d + 1)).init i args S) Q := h
theorem wp_fin {d : D} {S0 : Store} {Q : D → Store → Prop} (h : Q d S) : wp (finF false S0 d S) Q := h
theorem ret_q {d : D} {S0 : Store} {Q : D → Store → Prop} (h : Q d S) : retQ false S0 Q (.rt d, ρ) S := h
theorem ret_n {S0 : Store} {Q : D → Store → Prop} (h : Q .non S) : retQ false S0 Q (.nx, ρ) S := h
theorem wp_turn0 {S' : Store} {Q : AEnv → Store → Prop} (h : Q ρ S') : wp (turnEnd none S ρ S') Q := h
theorem wp_turn1 {ks : List Nat} {S0 S' T : Store} {Q : AEnv → Store → Prop} (hl : lowE S0.length (wipeD ρ ks) = true) (ht : trunc S0 S' = some T) (h : Q (wipeD ρ ks) T) : wp (turnEnd (some ks) S0 ρ S') Q := by
  show wp (if lowE S0.length (wipeD ρ ks) = true then (match trunc S0 S' with
      | some T => Rs.ok (wipeD ρ ks) T
      | none => .stuck) else .stuck) Q
  rw [if_pos hl, ht]
  exact h
/-- the cells that stood are as they were -/
theorem trunc_app {S0 N : Store} : trunc S0 (S0 ++ N) = some S0 := by
  have h : ∀ (n : Nat) (A B : Store), truncOk n A (A ++ B) = true := fun n A B => by
    induction A with
    | nil => rfl
    | cons a r ih => show ((sameO a a || lowO n a) && truncOk n r (r ++ B)) = true; rw [sameO_refl, ih]; rfl
  unfold trunc
  rw [if_pos (h _ _ _), List.take_left]
/-! ### made objects that are none -/
theorem mat_int {i : Int} : mat (.int i) S = (.int i, S) := rfl
theorem mat_bl {i : Bool} : mat (.bl i) S = (.bl i, S) := rfl
theorem mat_str {i : Str} : mat (.str i) S = (.str i, S) := rfl
theorem mat_non : mat .non S = (.non, S) := rfl
theorem mat_ref {i : Nat} : mat (.ref i) S = (.ref i, S) := rfl
theorem mats_nil : mats [] S = ([], S) := rfl
theorem mats_cons {x : D} {xs : List D} : mats (x :: xs) S = ((mat x S).1 :: (mats xs (mat x S).2).1, (mats xs (mat x S).2).2) := rfl
theorem mat_tup {xs : List D} : mat (.tup xs) S = (.tup (mats xs S).1, (mats xs S).2) := rfl
theorem mat_lst {xs : List D} : mat (.new (.lst xs)) S = (.ref (mats xs S).2.length, (mats xs S).2 ++ [.lst (mats xs S).1]) := rfl
/-! ### tests -/
theorem tst_bl {b : Bool} {Q : Bool → Prop} : tstD (.bl b) S Q = Q b := rfl
theorem tst_non {Q : Bool → Prop} : tstD .non S Q = Q false := rfl
theorem tst_int {i : Int} {Q : Bool → Prop} : tstD (.int i) S Q = Q (i != 0) := rfl
end
end Nv
/-! Nv: reckoning with expressions. -/
namespace Nv
open PySem PySem.Spec PyProof.Rows L2
section
variable {P : Prog} {M : Sm} {ρ : AEnv} {S : Store} {Q : D → Store → Prop} {QL : List D → Store → Prop}
theorem optQ_if {α : Type} {c : Prop} [Decidable c] {a : α} {Q : α → Prop} : optQ (if c then some a else none) Q = (c ∧ Q a) := by
  by_cases h : c <;> simp [h, optQ]
theorem optQ_map {α β : Type} {o : Option α} {f : α → β} {Q : β → Prop} : optQ (o.map f) Q = optQ o fun a => Q (f a) := by cases o <;> rfl
theorem optQ_bind {α β : Type} {o : Option α} {f : α → Option β} {Q : β → Prop} : optQ (o.bind f) Q = optQ o fun a => optQ (f a) Q := by cases o <;> rfl
theorem we_var {i : Nat} : wp (evalE P M (.var i) ρ S) Q = optQ ρ[i]? fun o => optQ o fun d => Q d S := by
  show wp (match ρ[i]? with
    | some (some d) => .ok d S
    | _ => .stuck) Q = _
  cases ρ[i]? with
  | none => rfl
  | some o => cases o <;> rfl
theorem we_non : wp (evalE P M .non ρ S) Q = Q .non S := rfl
theorem we_bl {b : Bool} : wp (evalE P M (.bl b) ρ S) Q = Q (.bl b) S := rfl
theorem we_int {i : Int} : wp (evalE P M (.int i) ρ S) Q = Q (.int i) S := rfl
theorem we_str {s : Str} : wp (evalE P M (.str s) ρ S) Q = Q (.str s) S := rfl
theorem we_glb {k : Nat} : wp (evalE P M (.glb k) ρ S) Q = optQ P.globs[k]? fun g => Q g.2 S := by
  show wp (match P.globs[k]? with
    | some g => .ok g.2 S
    | none => .stuck) Q = _
  cases P.globs[k]? <;> rfl
theorem ws_nil : wp (evalEs P M [] ρ S) QL = QL [] S := rfl
theorem ws_cons {e : E} {es : List E} : wp (evalEs P M (e :: es) ρ S) QL = wp (evalE P M e ρ S) fun x S1 => wp (evalEs P M es ρ S1) fun xs S2 => QL (x :: xs) S2 := by
  show wp ((evalE P M e ρ S).bind fun x S1 => (evalEs P M es ρ S1).bind fun xs S2 => .ok (x :: xs) S2) QL = _
  simp only [wp_bind, wp_ok]
theorem we_tup {es : List E} : wp (evalE P M (.tup es) ρ S) Q = wp (evalEs P M es ρ S) fun xs S1 => xs.length ≤ sizeLine ∧ Q (.tup xs) S1 := by
  show wp ((evalEs P M es ρ S).bind fun xs S1 => if xs.length ≤ sizeLine then .ok (.tup xs) S1 else .stuck) Q = _
  rw [wp_bind]
  congr 1; funext xs S1
  by_cases h : xs.length ≤ sizeLine <;> simp [h, wp]
theorem we_lst {es : List E} : wp (evalE P M (.lst es) ρ S) Q = wp (evalEs P M es ρ S) fun xs S1 => xs.length ≤ sizeLine ∧ Q (.new (.lst xs)) S1 := by
  show wp ((evalEs P M es ρ S).bind fun xs S1 => if xs.length ≤ sizeLine then .ok (.new (.lst xs)) S1 else .stuck) Q = _
  rw [wp_bind]
  congr 1; funext xs S1
  by_cases h : xs.length ≤ sizeLine <;> simp [h, wp]
theorem we_bin {o : Bop} {a b : E} : wp (evalE P M (.bin o a b) ρ S) Q = wp (evalE P M a ρ S) fun x S1 => wp (evalE P M b ρ S1) fun y S2 => optQ (binD o x y S2) fun d => Q d S2 := by
  show wp ((evalE P M a ρ S).bind fun x S1 => (evalE P M b ρ S1).bind fun y S2 => Rs.of (binD o x y S2) S2) Q = _
  simp only [wp_bind, wp_of]
def negD : D → Option D
  | .int i => some (.int (-i))
  | _ => none
theorem we_neg {a : E} : wp (evalE P M (.neg a) ρ S) Q = wp (evalE P M a ρ S) fun x S1 => optQ (negD x) fun d => Q d S1 := by
  show wp ((evalE P M a ρ S).bind fun x S1 => match x with
    | .int i => .ok (.int (-i)) S1
    | _ => .stuck) Q = _
  rw [wp_bind]
  congr 1; funext x S1
  cases x <;> rfl
theorem we_cmp {o : Cop} {a b : E} : wp (evalE P M (.cmp o a b) ρ S) Q = wp (evalE P M a ρ S) fun x S1 => wp (evalE P M b ρ S1) fun y S2 => optQ (cmpD o x y S2) fun k => Q (.bl k) S2 := by
  show wp ((evalE P M a ρ S).bind fun x S1 => (evalE P M b ρ S1).bind fun y S2 => Rs.of ((cmpD o x y S2).map .bl) S2) Q = _
  simp only [wp_bind, wp_of, optQ_map]
theorem we_chain {o p : Cop} {a b c : E} : wp (evalE P M (.chain o p a b c) ρ S) Q = wp (evalE P M a ρ S) fun x S1 => wp (evalE P M b ρ S1) fun y S2 => optQ (cmpD o x y S2) fun k =>
    (k = true → wp (evalE P M c ρ S2) fun z S3 => optQ (cmpD p y z S3) fun k => Q (.bl k) S3) ∧ (k = false → Q (.bl false) S2) := by
  show wp ((evalE P M a ρ S).bind fun x S1 => (evalE P M b ρ S1).bind fun y S2 => match cmpD o x y S2 with
    | some true => (evalE P M c ρ S2).bind fun z S3 => Rs.of ((cmpD p y z S3).map .bl) S3
    | some false => .ok (.bl false) S2
    | none => .stuck) Q = _
  simp only [wp_bind]
  congr 1; funext x S1; congr 1; funext y S2
  cases cmpD o x y S2 with
  | none => rfl
  | some k =>
    cases k with
    | true =>
      rw [optQ_some]
      simp only [wp_bind, wp_of, optQ_map, true_implies, reduceCtorEq, false_implies, and_true]
    | false => simp [optQ, wp]
theorem we_and1 {e : E} : wp (evalE P M (.and [e]) ρ S) Q = wp (evalE P M e ρ S) Q := rfl
theorem we_or1 {e : E} : wp (evalE P M (.or [e]) ρ S) Q = wp (evalE P M e ρ S) Q := rfl
theorem we_and {e e2 : E} {es : List E} : wp (evalE P M (.and (e :: e2 :: es)) ρ S) Q = wp (evalE P M e ρ S) fun x S1 => tstD x S1 fun k => (k = true → wp (evalE P M (.and (e2 :: es)) ρ S1) Q) ∧ (k = false → Q x S1) := by
  show wp ((evalE P M e ρ S).bind fun x S1 => match truD x S1 with
    | some true => evalE P M (.and (e2 :: es)) ρ S1
    | some false => .ok x S1
    | none => .stuck) Q = _
  rw [wp_bind]
  congr 1; funext x S1
  unfold tstD
  cases truD x S1 with
  | none => rfl
  | some k => cases k <;> simp [optQ, wp]
theorem we_or {e e2 : E} {es : List E} : wp (evalE P M (.or (e :: e2 :: es)) ρ S) Q = wp (evalE P M e ρ S) fun x S1 => tstD x S1 fun k => (k = true → Q x S1) ∧ (k = false → wp (evalE P M (.or (e2 :: es)) ρ S1) Q) := by
  show wp ((evalE P M e ρ S).bind fun x S1 => match truD x S1 with
    | some true => .ok x S1
    | some false => evalE P M (.or (e2 :: es)) ρ S1
    | none => .stuck) Q = _
  rw [wp_bind]
  congr 1; funext x S1
  unfold tstD
  cases truD x S1 with
  | none => rfl
  | some k => cases k <;> simp [optQ, wp]
theorem we_not {a : E} : wp (evalE P M (.not a) ρ S) Q = wp (evalE P M a ρ S) fun x S1 => tstD x S1 fun k => Q (.bl (!k)) S1 := by
  show wp ((evalE P M a ρ S).bind fun x S1 => match truD x S1 with
    | some k => .ok (.bl (!k)) S1
    | none => .stuck) Q = _
  rw [wp_bind]
  congr 1; funext x S1
  unfold tstD
  cases truD x S1 <;> rfl
theorem we_ite {c a b : E} : wp (evalE P M (.ite c a b) ρ S) Q = wp (evalE P M c ρ S) fun x S1 => tstD x S1 fun k => (k = true → wp (evalE P M a ρ S1) Q) ∧ (k = false → wp (evalE P M b ρ S1) Q) := by
  show wp ((evalE P M c ρ S).bind fun x S1 => match truD x S1 with
    | some true => evalE P M a ρ S1
    | some false => evalE P M b ρ S1
    | none => .stuck) Q = _
  rw [wp_bind]
  congr 1; funext x S1
  unfold tstD
  cases truD x S1 with
  | none => rfl
  | some k => cases k <;> simp [optQ, wp]
theorem we_idx {a i : E} : wp (evalE P M (.idx a i) ρ S) Q = wp (evalE P M a ρ S) fun x S1 => wp (evalE P M i ρ S1) fun y S2 => optQ (idxD x y S2) fun d => Q d S2 := by
  show wp ((evalE P M a ρ S).bind fun x S1 => (evalE P M i ρ S1).bind fun y S2 => Rs.of (idxD x y S2) S2) Q = _
  simp only [wp_bind, wp_of]
theorem wo_none {Q : Option Int → Store → Prop} : wp (evalO P M none ρ S) Q = Q none S := rfl
def intD : D → Option Int
  | .int i => some i
  | _ => none
theorem wo_some {e : E} {Q : Option Int → Store → Prop} : wp (evalO P M (some e) ρ S) Q = wp (evalE P M e ρ S) fun x S1 => optQ (intD x) fun i => Q (some i) S1 := by
  show wp ((evalE P M e ρ S).bind fun x S1 => match x with
    | .int i => .ok (some i) S1
    | _ => .stuck) Q = _
  rw [wp_bind]
  congr 1; funext x S1
  cases x <;> rfl
theorem we_slc {a : E} {lo hi : Option E} : wp (evalE P M (.slc a lo hi) ρ S) Q = wp (evalE P M a ρ S) fun x S1 => wp (evalO P M lo ρ S1) fun l S2 => wp (evalO P M hi ρ S2) fun h S3 => optQ (slcD x l h S3) fun d => Q d S3 := by
  show wp ((evalE P M a ρ S).bind fun x S1 => (evalO P M lo ρ S1).bind fun l S2 => (evalO P M hi ρ S2).bind fun h S3 => Rs.of (slcD x l h S3) S3) Q = _
  simp only [wp_bind, wp_of]
theorem we_attr {e : E} {f : Nat} : wp (evalE P M (.attr e f) ρ S) Q = wp (evalE P M e ρ S) fun x S1 => optQ (attrD x f S1) fun d => Q d S1 := by
  show wp ((evalE P M e ρ S).bind fun x S1 => Rs.of (attrD x f S1) S1) Q = _
  simp only [wp_bind, wp_of]
theorem we_call {f : Nat} {es : List E} : wp (evalE P M (.call f es) ρ S) Q = wp (evalEs P M es ρ S) fun xs S1 => wp (M.call f (mats xs S1).1 (mats xs S1).2) Q := by
  show wp ((evalEs P M es ρ S).bind fun xs S1 => M.call f (mats xs S1).1 (mats xs S1).2) Q = _
  rw [wp_bind]
/-- the receiver of an own method -/
def recvD (c m : Nat) (x : D) (S : Store) : Option Nat := match x with
  | .ref n => match S[n]? with
    | some (.ins c' fs) => if c' = c ∧ fs.lookup m = none then some n else none
    | _ => none
  | _ => none
theorem methD_eq {c m : Nat} {x : D} {S : Store} {k : Nat → Rs D} : wp (methD c m x S k) Q = optQ (recvD c m x S) fun n => wp (k n) Q := by
  unfold methD recvD
  cases x with
  | ref n =>
    dsimp only
    cases S[n]? with
    | none => rfl
    | some o =>
      cases o with
      | ins c' fs =>
        dsimp only
        by_cases h : c' = c ∧ fs.lookup m = none
        · rw [if_pos h, if_pos h]; rfl
        · rw [if_neg h, if_neg h]; rfl
      | _ => rfl
  | _ => rfl
theorem we_meth {o : E} {c m f : Nat} {es : List E} : wp (evalE P M (.meth o c m f es) ρ S) Q = wp (evalE P M o ρ S) fun x S1 => optQ (recvD c m (mat x S1).1 (mat x S1).2) fun n => wp (evalEs P M es ρ (mat x S1).2) fun xs S2 => wp (M.call f (.ref n :: (mats xs S2).1) (mats xs S2).2) Q := by
  show wp ((evalE P M o ρ S).bind fun x S1 => methD c m (mat x S1).1 (mat x S1).2 fun n => (evalEs P M es ρ (mat x S1).2).bind fun xs S2 => M.call f (.ref n :: (mats xs S2).1) (mats xs S2).2) Q = _
  rw [wp_bind]
  congr 1; funext x S1
  rw [methD_eq]
  simp only [wp_bind]
def nonD : D → Option Unit
  | .non => some ()
  | _ => none
theorem wmake {c : Nat} {g : List D → Store → Rs D} {xs : List D} {S : Store} : wp (makeD c g xs S) Q = wp (g (.ref (mats xs S).2.length :: (mats xs S).1) ((mats xs S).2 ++ [.ins c []])) fun v S3 => optQ (nonD v) fun _ => Q (.ref (mats xs S).2.length) S3 := by
  unfold makeD
  rw [wp_bind]
  congr 1; funext v S3
  cases v <;> rfl
theorem we_make {c : Nat} {es : List E} : wp (evalE P M (.make c es) ρ S) Q = optQ P.cls[c]? fun cl => wp (evalEs P M es ρ S) fun xs S1 => wp (makeD c (M.init cl.init) xs S1) Q := by
  show wp (match P.cls[c]? with
    | none => .stuck
    | some cl => (evalEs P M es ρ S).bind fun xs S1 => makeD c (M.init cl.init) xs S1) Q = _
  cases P.cls[c]? with
  | none => rfl
  | some cl => simp only [wp_bind, optQ_some]
theorem we_makek {c : Nat} {es ks : List E} {ns : List Str} {ds : List (Nat ⊕ D)} : wp (evalE P M (.makek c es ks ns ds) ρ S) Q = optQ P.cls[c]? fun cl => wp (evalEs P M es ρ S) fun xs S1 => wp (evalEs P M ks ρ S1) fun ys S2 =>
    (xs.all isCell = true ∧ ys.all isCell = true) ∧ wp (makeD c (M.init cl.init) (xs ++ kwD ds ys) S2) Q := by
  show wp (match P.cls[c]? with
    | none => .stuck
    | some cl => (evalEs P M es ρ S).bind fun xs S1 => (evalEs P M ks ρ S1).bind fun ys S2 => makeKD c (M.init cl.init) ds xs ys S2) Q = _
  cases P.cls[c]? with
  | none => rfl
  | some cl =>
    simp only [wp_bind, optQ_some]
    congr 1; funext xs S1; congr 1; funext ys S2
    unfold makeKD
    by_cases h : xs.all isCell = true ∧ ys.all isCell = true
    · rw [if_pos h]; simp only [h, true_and, and_self]
    · rw [if_neg h]
      simp only [h, false_and]; rfl
theorem we_blt {f : Blt} {es : List E} : wp (evalE P M (.blt f es) ρ S) Q = wp (evalEs P M es ρ S) fun xs S1 => optQ (bltD f xs S1) fun d => Q d S1 := by
  show wp ((evalEs P M es ρ S).bind fun xs S1 => Rs.of (bltD f xs S1) S1) Q = _
  simp only [wp_bind, wp_of]
theorem we_bm {m : Bm} {o : E} {es : List E} : wp (evalE P M (.bm m o es) ρ S) Q = wp (evalE P M o ρ S) fun x S1 => bmTy m x S1 = true ∧ wp (evalEs P M es ρ S1) fun xs S2 => wp (bmD m x xs S2) Q := by
  show wp ((evalE P M o ρ S).bind fun x S1 => if bmTy m x S1 = true then (evalEs P M es ρ S1).bind fun xs S2 => bmD m x xs S2 else .stuck) Q = _
  rw [wp_bind]
  congr 1; funext x S1
  by_cases h : bmTy m x S1 = true
  · rw [if_pos h, wp_bind]; simp only [h, true_and]
  · rw [if_neg h]
    exact propext ⟨fun z => z.elim, fun z => absurd z.1 h⟩
theorem we_isi {e : E} {t : IsT} : wp (evalE P M (.isi e t) ρ S) Q = wp (evalE P M e ρ S) fun x S1 => optQ (isiD x t S1) fun k => Q (.bl k) S1 := by
  show wp ((evalE P M e ρ S).bind fun x S1 => Rs.of ((isiD x t S1).map .bl) S1) Q = _
  simp only [wp_bind, wp_of, optQ_map]
theorem we_comp {own : List (Str × Nat)} {g : Nv.G} {it : Nv.It} {ifs : List E} {elt : E} : wp (evalE P M (.comp own g it ifs elt) ρ S) Q = wp (evalIt P M it ρ S) fun r S1 => wp (compF r.2 (evalG g) (evalIfs P M ifs) (evalE P M elt) (wipeD ρ (own.map (·.2))) r.1 S1) fun ys S2 => ys.length ≤ sizeLine ∧ Q (.new (.lst ys)) S2 := by
  show wp ((evalIt P M it ρ S).bind fun r S1 => (compF r.2 (evalG g) (evalIfs P M ifs) (evalE P M elt) (wipeD ρ (own.map (·.2))) r.1 S1).noex.bind fun ys S2 => if ys.length ≤ sizeLine then .ok (.new (.lst ys)) S2 else .stuck) Q = _
  simp only [wp_bind, wp_noex]
  congr 1; funext r S1; congr 1; funext ys S2
  by_cases h : ys.length ≤ sizeLine <;> simp [h, wp]
theorem wf_nil {Q : Bool → Store → Prop} : wp (evalIfs P M [] ρ S) Q = Q true S := rfl
theorem wf_one {e : E} {Q : Bool → Store → Prop} : wp (evalIfs P M [e] ρ S) Q = wp (evalE P M e ρ S) fun x S1 => tstD x S1 fun k => Q k S1 := by
  show wp ((evalE P M e ρ S).bind fun x S1 => Rs.of (truD x S1) S1) Q = _
  simp only [wp_bind, wp_of]
  rfl
theorem wt_tru {e : E} {Q : Bool → Store → Prop} : wp (truF (evalE P M e) ρ S) Q = wp (evalE P M e ρ S) fun x S1 => tstD x S1 fun k => Q k S1 := wf_one
/-! ### what is walked -/
section
variable {Q : List D × Option (Nat × List D) → Store → Prop}
theorem wi_of {e : E} : wp (evalIt P M (.of e) ρ S) Q = wp (evalE P M e ρ S) fun x S1 => optQ (seqOf x S1) fun xs => Q (xs, guardOf x xs) S1 := by
  show wp ((evalE P M e ρ S).bind fun x S1 => match seqOf x S1 with
    | some xs => .ok (xs, guardOf x xs) S1
    | none => .stuck) Q = _
  rw [wp_bind]
  congr 1; funext x S1
  cases seqOf x S1 <;> rfl
theorem wi_range {es : List E} : wp (evalIt P M (.range es) ρ S) Q = wp (evalEs P M es ρ S) fun xs S1 => optQ (rangeD xs) fun ys => Q (ys, none) S1 := by
  show wp ((evalEs P M es ρ S).bind fun xs S1 => match rangeD xs with
    | some ys => .ok (ys, none) S1
    | none => .stuck) Q = _
  rw [wp_bind]
  congr 1; funext xs S1
  cases rangeD xs <;> rfl
theorem wi_enum {e : E} : wp (evalIt P M (.enum e) ρ S) Q = wp (evalE P M e ρ S) fun x S1 => optQ (lisOf x S1) fun xs => Q (enumD 0 xs, guardOf x xs) S1 := by
  show wp ((evalE P M e ρ S).bind fun x S1 => match lisOf x S1 with
    | some xs => .ok (enumD 0 xs, guardOf x xs) S1
    | none => .stuck) Q = _
  rw [wp_bind]
  congr 1; funext x S1
  cases lisOf x S1 <;> rfl
end
section
variable {Q : AEnv → Store → Prop}
theorem wg_name {i : Nat} {d : D} : wp (evalG (.name i) d ρ S) Q = Q (ρ.set i (some (mat d S).1)) (mat d S).2 := rfl
theorem wg_tup {gs : List Nv.G} {xs : List D} : wp (evalG (.tup gs) (.tup xs) ρ S) Q = wp (evalGs gs xs ρ S) Q := rfl
theorem wg_nil : wp (evalGs [] [] ρ S) Q = Q ρ S := rfl
theorem wg_cons {g : Nv.G} {gs : List Nv.G} {x : D} {xs : List D} : wp (evalGs (g :: gs) (x :: xs) ρ S) Q = wp (evalG g x ρ S) fun ρ1 S1 => wp (evalGs gs xs ρ1 S1) Q := by
  show wp ((evalG g x ρ S).bind fun ρ1 S1 => evalGs gs xs ρ1 S1) Q = _
  rw [wp_bind]
end
/-! ### values -/
theorem b_add {i j : Int} : binD .add (.int i) (.int j) S = some (.int (i + j)) := rfl
theorem b_sub {i j : Int} : binD .sub (.int i) (.int j) S = some (.int (i - j)) := rfl
theorem b_mul {i j : Int} : binD .mul (.int i) (.int j) S = if i.natAbs.log2 + j.natAbs.log2 < 1000000 then some (.int (i * j)) else none := rfl
theorem b_fdiv {i j : Int} : binD .fdiv (.int i) (.int j) S = if 0 < j ∧ j.natAbs.log2 < 9000 then some (.int (i / j)) else none := rfl
theorem b_mod {i j : Int} : binD .mod (.int i) (.int j) S = if 0 < j then some (.int (i % j)) else none := rfl
theorem b_pow {i j : Int} : binD .pow (.int i) (.int j) S = if 0 ≤ j ∧ j ≤ 1000000 ∧ i.natAbs < 2 ^ 64 then some (.int (i ^ j.toNat)) else none := rfl
theorem c_lt {i j : Int} : cmpD .lt (.int i) (.int j) S = some (decide (i < j)) := rfl
theorem c_le {i j : Int} : cmpD .le (.int i) (.int j) S = some (decide (i ≤ j)) := rfl
theorem c_gt {i j : Int} : cmpD .gt (.int i) (.int j) S = some (decide (j < i)) := rfl
theorem c_ge {i j : Int} : cmpD .ge (.int i) (.int j) S = some (decide (j ≤ i)) := rfl
theorem c_eqI {i j : Int} : cmpD .eq (.int i) (.int j) S = some (decide (i = j)) := by
  show (if scal (.int i) (.int j) = true then some (decide (V.int i = V.int j)) else none) = _
  have : scal (.int i) (.int j) = true := rfl
  rw [if_pos this]
  congr 1
  by_cases h : i = j <;> simp [h]
theorem c_neI {i j : Int} : cmpD .ne (.int i) (.int j) S = some (!decide (i = j)) := by
  show (cmpD .eq (.int i) (.int j) S).map not = _
  rw [c_eqI]; rfl
theorem c_isI {i : Int} : cmpD .isN (.int i) .non S = some false := rfl
theorem c_notI {i : Int} : cmpD .notN (.int i) .non S = some true := rfl
theorem c_isN : cmpD .isN .non .non S = some true := rfl
theorem c_notN : cmpD .notN .non .non S = some false := rfl
theorem i_ii {i : Int} : isiD (.int i) .int S = some true := rfl
theorem i_ib {i : Int} : isiD (.int i) .bool S = some false := rfl
theorem n_i {i : Int} : negD (.int i) = some (.int (-i)) := rfl
theorem d_i {i : Int} : intD (.int i) = some i := rfl
theorem l_min {i j : Int} : bltD .min [.int i, .int j] S = some (.int (if j < i then j else i)) := rfl
theorem l_max {i j : Int} : bltD .max [.int i, .int j] S = some (.int (if j > i then j else i)) := rfl
theorem x_ref {n : Nat} {k : Int} : idxD (.ref n) (.int k) S = (seqOf (.ref n) S).bind fun xs => L2.atI xs k := rfl
theorem x_new {xs : List D} {k : Int} : idxD (.new (.lst xs)) (.int k) S = L2.atI xs k := rfl
theorem x_tup {xs : List D} {k : Int} : idxD (.tup xs) (.int k) S = L2.atI xs k := rfl
theorem s_lst {n : Nat} {xs : List D} (h : S[n]? = some (.lst xs)) : seqOf (.ref n) S = some xs := by simp only [seqOf, h]
theorem s_frz {n : Nat} {xs : List D} (h : S[n]? = some (.frz xs)) : seqOf (.ref n) S = some xs := by simp only [seqOf, h]
theorem s_new {xs : List D} : seqOf (.new (.lst xs)) S = some xs := rfl
theorem s_tup {xs : List D} : seqOf (.tup xs) S = some xs := rfl
theorem y_new {xs : List D} : lisOf (.new (.lst xs)) S = some xs := rfl
theorem y_ref {n : Nat} {xs : List D} (h : S[n]? = some (.lst xs)) : lisOf (.ref n) S = some xs := by simp only [lisOf, h]
theorem y_frz {n : Nat} {xs : List D} (h : S[n]? = some (.frz xs)) : lisOf (.ref n) S = some xs := by simp only [lisOf, h]
theorem at_0 {α : Type} {a : α} {r : List α} : L2.atI (a :: r) (0 : Int) = some a := by
  have : L2.ixN (a :: r).length 0 = some 0 := by simp [L2.ixN]
  unfold L2.atI
  rw [this]; rfl
theorem at_nat {α : Type} {xs : List α} {i : Int} {a : α} (h0 : 0 ≤ i) (h : xs[i.toNat]? = some a) : L2.atI xs i = some a := by
  have hl := (List.getElem?_eq_some_iff.mp h).1
  have : L2.ixN xs.length i = some i.toNat := by
    unfold L2.ixN
    rw [if_pos h0, if_pos (by omega)]
  unfold L2.atI
  rw [this]; exact h
theorem at_1 {α : Type} {a b : α} {r : List α} : L2.atI (a :: b :: r) (1 : Int) = some b := at_nat (by decide) rfl
theorem at_2 {α : Type} {a b c : α} {r : List α} : L2.atI (a :: b :: c :: r) (2 : Int) = some c := at_nat (by decide) rfl
theorem ix_0 {n : Nat} : L2.ixN (n + 1) 0 = some 0 := by simp [L2.ixN]
theorem ix_1 {n : Nat} : L2.ixN (n + 1 + 1) 1 = some 1 := by
  unfold L2.ixN
  rw [if_pos (by decide), if_pos (by omega)]; rfl
theorem ix_2 {n : Nat} : L2.ixN (n + 1 + 1 + 1) 2 = some 2 := by
  unfold L2.ixN
  rw [if_pos (by decide), if_pos (by omega)]; rfl
theorem u_sub {n : Nat} {k : Int} {v : D} {xs : List D} (h : S[n]? = some (.lst xs)) : setSub (.ref n) (.int k) v S = (ixN xs.length k).map fun j => S.set n (.lst (xs.set j v)) := by simp only [setSub, h]
theorem a_ins {n c f : Nat} {fs : List (Nat × D)} (h : S[n]? = some (.ins c fs)) : attrD (.ref n) f S = fs.lookup f := by simp only [attrD, h]
theorem u_attr {n c f : Nat} {v : D} {fs : List (Nat × D)} (h : S[n]? = some (.ins c fs)) : setAttr (.ref n) f v S = if fs.length < 1000 then some (S.set n (.ins c (putA f v fs))) else none := by simp only [setAttr, h]
theorem r_ins {n c m : Nat} {fs : List (Nat × D)} (h : S[n]? = some (.ins c fs)) (hl : fs.lookup m = none) : recvD c m (.ref n) S = some n := by simp [recvD, h, hl]
theorem optQ_ifd {α : Type} {c : Prop} [Decidable c] {a b : α} {Q : α → Prop} : optQ (if c then some a else some b) Q = if c then Q a else Q b := by by_cases h : c <;> simp [h, optQ]
end
end Nv
/-! Nv: the laws' own draws. -/
namespace Nv
open PySem PySem.Spec PyProof.Rows L2
/-! ### sizes -/
theorem log2_lt {n k : Nat} (h : n < 2 ^ k) (hk : 0 < k) : n.log2 < k := by
  by_cases h0 : n = 0
  · subst h0; simpa using hk
  · exact (Nat.log2_lt h0).mpr h
theorem mul_ok {a b : Int} (ha : a.natAbs < 2 ^ 64) (hb : b.natAbs < 2 ^ 64) : a.natAbs.log2 + b.natAbs.log2 < 1000000 := by
  have := log2_lt ha (by decide)
  have := log2_lt hb (by decide)
  omega
def bTake : List Nv.St := [
    .ite (.cmp .gt (.idx (.var 0) (.int 0)) (.int 0)) [
      .set 2 (.bin .mod (.idx (.var 0) (.int 0)) (.var 1)),
      .sub (.var 0) (.int 0) (.bin .fdiv (.idx (.var 0) (.int 0)) (.var 1)),
      .ret (.var 2)] [],
    .sub (.var 0) (.int 2) (.bin .add (.idx (.var 0) (.int 2)) (.int 1)),
    .set 3 (.int 2305843009213693951),
    .set 4 (.bin .mod (.bin .add (.idx (.var 0) (.int 1)) (.bin .mul (.int 1000003) (.idx (.var 0) (.int 2)))) (.var 3)),
    .set 4 (.bin .mod (.bin .add (.bin .add (.bin .mul (.var 4) (.var 4)) (.bin .mul (.int 7919) (.bin .pow (.idx (.var 0) (.int 2)) (.int 2)))) (.int 5)) (.var 3)),
    .ret (.bin .mod (.bin .fdiv (.bin .mod (.bin .pow (.var 4) (.int 3)) (.var 3)) (.int 13)) (.var 1))]
/-- a bag: x the digits that are left, y the seed, z the turn -/
def bag (x y z : Int) : O := .lst [.int x, .int y, .int z]
/-- a bag that is in order, at most k draws from the start -/
def BagOk (k : Int) (o : O) : Prop := ∃ x y z, o = bag x y z ∧ 0 ≤ y ∧ y < 2305843009213693951 ∧ 0 ≤ z ∧ z ≤ k
theorem BagOk.mono {k l : Int} {o : O} (h : BagOk k o) (hl : k ≤ l) : BagOk l o := let ⟨x, y, z, h1, h2, h3, h4, h5⟩ := h; ⟨x, y, z, h1, h2, h3, h4, by omega⟩
theorem take_ok {P : Prog} {d i : Nat} {fn : Nv.Fn} (hf : P.fns[i]? = some fn) (hb : fn.body = bTake) (hp : fn.ps = 2) (hs : fn.slots = 5) (hg : fn.gc = false) {S : Store} {b : Nat} {o : O} {k many : Int} (h : S[b]? = some o) (ho : BagOk k o)
    (hk : k < 2 ^ 62) (h0 : 0 < many) (h1 : many < 2 ^ 63) {Q : D → Store → Prop} (hQ : ∀ r o', 0 ≤ r → r < many → BagOk (k + 1) o' → Q (.int r) (S.set b o')) : wp ((sm P (d + 1)).call i [.ref b, .int many] S) Q := by
  obtain ⟨x, y, z, rfl, hy, hy2, hz, hz2⟩ := ho
  have hlt : b < S.length := (List.getElem?_eq_some_iff.mp h).1
  have hl : many.natAbs.log2 < 9000 := by
    have : many.natAbs < 2 ^ 64 := by omega
    have := log2_lt this (by decide)
    omega
  refine wp_call hf (by rw [hp]; rfl) (by rw [hp, hs]; decide) ?_
  rw [hb, hp, hs, hg]
  show wp (evalSs P (sm P d) bTake [some (.ref b), some (.int many), none, none, none] S) _
  have hS := s_lst h
  refine wp_cons (wp_S_ite ?_)
  simp only [we_var, we_non, we_bl, we_int, we_str, we_glb, ws_nil, ws_cons, we_tup, we_lst, we_bin, we_neg, we_cmp, we_chain, we_and1, we_or1, we_and, we_or, we_not, we_ite, we_idx, wo_none, wo_some, we_slc, we_attr, we_call, we_meth, we_make, we_makek, wmake, we_blt, we_bm, we_isi, we_comp, wf_nil, wf_one, wt_tru, wi_of, wi_range, wi_enum, wg_name, wg_tup, wg_nil, wg_cons, optQ_some, optQ_if, optQ_map, optQ_bind, tst_bl, tst_non, tst_int, b_add, b_sub, b_mul, b_fdiv, b_mod, b_pow, c_lt, c_le, c_gt, c_ge, c_eqI, c_neI, c_isI, c_notI, c_isN, c_notN, i_ii, i_ib, n_i, d_i, l_min, l_max, x_ref, x_new, x_tup, s_new, s_tup, y_new, at_0, at_1, at_2, mat_int, mat_bl, mat_str, mat_non, mat_ref, mats_nil, mats_cons, mat_tup, List.getElem?_cons_zero, List.getElem?_cons_succ, List.set_cons_zero, List.set_cons_succ, decide_eq_true_eq, decide_eq_false_iff_not, wp_ok, hS]
  refine ⟨fun hx => ?_, fun hx => ?_⟩
  · refine wp_cons (wp_S_set ?_)
    simp only [we_var, we_non, we_bl, we_int, we_str, we_glb, ws_nil, ws_cons, we_tup, we_lst, we_bin, we_neg, we_cmp, we_chain, we_and1, we_or1, we_and, we_or, we_not, we_ite, we_idx, wo_none, wo_some, we_slc, we_attr, we_call, we_meth, we_make, we_makek, wmake, we_blt, we_bm, we_isi, we_comp, wf_nil, wf_one, wt_tru, wi_of, wi_range, wi_enum, wg_name, wg_tup, wg_nil, wg_cons, optQ_some, optQ_if, optQ_map, optQ_bind, tst_bl, tst_non, tst_int, b_add, b_sub, b_mul, b_fdiv, b_mod, b_pow, c_lt, c_le, c_gt, c_ge, c_eqI, c_neI, c_isI, c_notI, c_isN, c_notN, i_ii, i_ib, n_i, d_i, l_min, l_max, x_ref, x_new, x_tup, s_new, s_tup, y_new, at_0, at_1, at_2, mat_int, mat_bl, mat_str, mat_non, mat_ref, mats_nil, mats_cons, mat_tup, List.getElem?_cons_zero, List.getElem?_cons_succ, List.set_cons_zero, List.set_cons_succ, decide_eq_true_eq, decide_eq_false_iff_not, wp_ok, hS]
    refine ⟨h0, ?_⟩
    refine wp_cons (wp_S_sub ?_)
    simp only [we_var, we_non, we_bl, we_int, we_str, we_glb, ws_nil, ws_cons, we_tup, we_lst, we_bin, we_neg, we_cmp, we_chain, we_and1, we_or1, we_and, we_or, we_not, we_ite, we_idx, wo_none, wo_some, we_slc, we_attr, we_call, we_meth, we_make, we_makek, wmake, we_blt, we_bm, we_isi, we_comp, wf_nil, wf_one, wt_tru, wi_of, wi_range, wi_enum, wg_name, wg_tup, wg_nil, wg_cons, optQ_some, optQ_if, optQ_map, optQ_bind, tst_bl, tst_non, tst_int, b_add, b_sub, b_mul, b_fdiv, b_mod, b_pow, c_lt, c_le, c_gt, c_ge, c_eqI, c_neI, c_isI, c_notI, c_isN, c_notN, i_ii, i_ib, n_i, d_i, l_min, l_max, x_ref, x_new, x_tup, s_new, s_tup, y_new, at_0, at_1, at_2, mat_int, mat_bl, mat_str, mat_non, mat_ref, mats_nil, mats_cons, mat_tup, List.getElem?_cons_zero, List.getElem?_cons_succ, List.set_cons_zero, List.set_cons_succ, decide_eq_true_eq, decide_eq_false_iff_not, wp_ok, hS, u_sub h, List.length_cons, ix_0]
    refine ⟨⟨h0, hl⟩, ?_⟩
    refine wp_cons (wp_S_ret ?_)
    simp only [we_var, we_non, we_bl, we_int, we_str, we_glb, ws_nil, ws_cons, we_tup, we_lst, we_bin, we_neg, we_cmp, we_chain, we_and1, we_or1, we_and, we_or, we_not, we_ite, we_idx, wo_none, wo_some, we_slc, we_attr, we_call, we_meth, we_make, we_makek, wmake, we_blt, we_bm, we_isi, we_comp, wf_nil, wf_one, wt_tru, wi_of, wi_range, wi_enum, wg_name, wg_tup, wg_nil, wg_cons, optQ_some, optQ_if, optQ_map, optQ_bind, tst_bl, tst_non, tst_int, b_add, b_sub, b_mul, b_fdiv, b_mod, b_pow, c_lt, c_le, c_gt, c_ge, c_eqI, c_neI, c_isI, c_notI, c_isN, c_notN, i_ii, i_ib, n_i, d_i, l_min, l_max, x_ref, x_new, x_tup, s_new, s_tup, y_new, at_0, at_1, at_2, mat_int, mat_bl, mat_str, mat_non, mat_ref, mats_nil, mats_cons, mat_tup, List.getElem?_cons_zero, List.getElem?_cons_succ, List.set_cons_zero, List.set_cons_succ, decide_eq_true_eq, decide_eq_false_iff_not, wp_ok]
    exact ret_q (hQ _ _ (Int.emod_nonneg _ (by omega)) (Int.emod_lt_of_pos _ h0) ⟨_, y, z, rfl, hy, hy2, hz, by omega⟩)
  · refine wp_nil ?_
    refine wp_cons (wp_S_sub ?_)
    simp only [we_var, we_non, we_bl, we_int, we_str, we_glb, ws_nil, ws_cons, we_tup, we_lst, we_bin, we_neg, we_cmp, we_chain, we_and1, we_or1, we_and, we_or, we_not, we_ite, we_idx, wo_none, wo_some, we_slc, we_attr, we_call, we_meth, we_make, we_makek, wmake, we_blt, we_bm, we_isi, we_comp, wf_nil, wf_one, wt_tru, wi_of, wi_range, wi_enum, wg_name, wg_tup, wg_nil, wg_cons, optQ_some, optQ_if, optQ_map, optQ_bind, tst_bl, tst_non, tst_int, b_add, b_sub, b_mul, b_fdiv, b_mod, b_pow, c_lt, c_le, c_gt, c_ge, c_eqI, c_neI, c_isI, c_notI, c_isN, c_notN, i_ii, i_ib, n_i, d_i, l_min, l_max, x_ref, x_new, x_tup, s_new, s_tup, y_new, at_0, at_1, at_2, mat_int, mat_bl, mat_str, mat_non, mat_ref, mats_nil, mats_cons, mat_tup, List.getElem?_cons_zero, List.getElem?_cons_succ, List.set_cons_zero, List.set_cons_succ, decide_eq_true_eq, decide_eq_false_iff_not, wp_ok, hS, u_sub h, List.length_cons, ix_2]
    have h' : (S.set b (bag x y (z + 1)))[b]? = some (bag x y (z + 1)) := List.getElem?_set_self hlt
    have hS' := s_lst h'
    refine wp_cons (wp_S_set ?_)
    simp only [we_var, we_non, we_bl, we_int, we_str, we_glb, ws_nil, ws_cons, we_tup, we_lst, we_bin, we_neg, we_cmp, we_chain, we_and1, we_or1, we_and, we_or, we_not, we_ite, we_idx, wo_none, wo_some, we_slc, we_attr, we_call, we_meth, we_make, we_makek, wmake, we_blt, we_bm, we_isi, we_comp, wf_nil, wf_one, wt_tru, wi_of, wi_range, wi_enum, wg_name, wg_tup, wg_nil, wg_cons, optQ_some, optQ_if, optQ_map, optQ_bind, tst_bl, tst_non, tst_int, b_add, b_sub, b_mul, b_fdiv, b_mod, b_pow, c_lt, c_le, c_gt, c_ge, c_eqI, c_neI, c_isI, c_notI, c_isN, c_notN, i_ii, i_ib, n_i, d_i, l_min, l_max, x_ref, x_new, x_tup, s_new, s_tup, y_new, at_0, at_1, at_2, mat_int, mat_bl, mat_str, mat_non, mat_ref, mats_nil, mats_cons, mat_tup, List.getElem?_cons_zero, List.getElem?_cons_succ, List.set_cons_zero, List.set_cons_succ, decide_eq_true_eq, decide_eq_false_iff_not, wp_ok]
    refine wp_cons (wp_S_set ?_)
    show wp (evalE P (sm P d) _ _ (S.set b (bag x y (z + 1)))) _
    simp only [we_var, we_non, we_bl, we_int, we_str, we_glb, ws_nil, ws_cons, we_tup, we_lst, we_bin, we_neg, we_cmp, we_chain, we_and1, we_or1, we_and, we_or, we_not, we_ite, we_idx, wo_none, wo_some, we_slc, we_attr, we_call, we_meth, we_make, we_makek, wmake, we_blt, we_bm, we_isi, we_comp, wf_nil, wf_one, wt_tru, wi_of, wi_range, wi_enum, wg_name, wg_tup, wg_nil, wg_cons, optQ_some, optQ_if, optQ_map, optQ_bind, tst_bl, tst_non, tst_int, b_add, b_sub, b_mul, b_fdiv, b_mod, b_pow, c_lt, c_le, c_gt, c_ge, c_eqI, c_neI, c_isI, c_notI, c_isN, c_notN, i_ii, i_ib, n_i, d_i, l_min, l_max, x_ref, x_new, x_tup, s_new, s_tup, y_new, at_0, at_1, at_2, mat_int, mat_bl, mat_str, mat_non, mat_ref, mats_nil, mats_cons, mat_tup, List.getElem?_cons_zero, List.getElem?_cons_succ, List.set_cons_zero, List.set_cons_succ, decide_eq_true_eq, decide_eq_false_iff_not, wp_ok, hS']
    refine ⟨mul_ok (by decide) (by omega), by decide, ?_⟩
    refine wp_cons (wp_S_set ?_)
    simp only [we_var, we_non, we_bl, we_int, we_str, we_glb, ws_nil, ws_cons, we_tup, we_lst, we_bin, we_neg, we_cmp, we_chain, we_and1, we_or1, we_and, we_or, we_not, we_ite, we_idx, wo_none, wo_some, we_slc, we_attr, we_call, we_meth, we_make, we_makek, wmake, we_blt, we_bm, we_isi, we_comp, wf_nil, wf_one, wt_tru, wi_of, wi_range, wi_enum, wg_name, wg_tup, wg_nil, wg_cons, optQ_some, optQ_if, optQ_map, optQ_bind, tst_bl, tst_non, tst_int, b_add, b_sub, b_mul, b_fdiv, b_mod, b_pow, c_lt, c_le, c_gt, c_ge, c_eqI, c_neI, c_isI, c_notI, c_isN, c_notN, i_ii, i_ib, n_i, d_i, l_min, l_max, x_ref, x_new, x_tup, s_new, s_tup, y_new, at_0, at_1, at_2, mat_int, mat_bl, mat_str, mat_non, mat_ref, mats_nil, mats_cons, mat_tup, List.getElem?_cons_zero, List.getElem?_cons_succ, List.set_cons_zero, List.set_cons_succ, decide_eq_true_eq, decide_eq_false_iff_not, wp_ok, hS']
    generalize hn : (y + 1000003 * (z + 1)) % 2305843009213693951 = n
    have n0 : 0 ≤ n := by rw [← hn]; exact Int.emod_nonneg _ (by decide)
    have n1 : n < 2305843009213693951 := by rw [← hn]; exact Int.emod_lt_of_pos _ (by decide)
    refine ⟨mul_ok (by omega) (by omega), ⟨by decide, by decide, by omega⟩, ?_, by decide, ?_⟩
    · have e : (z + 1) ^ (2 : Int).toNat = (z + 1) * (z + 1) := by show (z + 1) ^ 2 = _; rw [Int.pow_succ, Int.pow_succ, Int.pow_zero, Int.one_mul]
      rw [e]
      have : ((z + 1) * (z + 1)).natAbs < 2 ^ 128 := by
        rw [Int.natAbs_mul]
        have h1 : (z + 1).natAbs < 2 ^ 64 := by omega
        have := Nat.mul_lt_mul'' h1 h1
        simpa [← Nat.pow_add] using this
      have l1 := log2_lt this (by decide)
      have l2 : (7919 : Int).natAbs.log2 < 64 := log2_lt (by decide) (by decide)
      omega
    refine wp_cons (wp_S_ret ?_)
    simp only [we_var, we_non, we_bl, we_int, we_str, we_glb, ws_nil, ws_cons, we_tup, we_lst, we_bin, we_neg, we_cmp, we_chain, we_and1, we_or1, we_and, we_or, we_not, we_ite, we_idx, wo_none, wo_some, we_slc, we_attr, we_call, we_meth, we_make, we_makek, wmake, we_blt, we_bm, we_isi, we_comp, wf_nil, wf_one, wt_tru, wi_of, wi_range, wi_enum, wg_name, wg_tup, wg_nil, wg_cons, optQ_some, optQ_if, optQ_map, optQ_bind, tst_bl, tst_non, tst_int, b_add, b_sub, b_mul, b_fdiv, b_mod, b_pow, c_lt, c_le, c_gt, c_ge, c_eqI, c_neI, c_isI, c_notI, c_isN, c_notN, i_ii, i_ib, n_i, d_i, l_min, l_max, x_ref, x_new, x_tup, s_new, s_tup, y_new, at_0, at_1, at_2, mat_int, mat_bl, mat_str, mat_non, mat_ref, mats_nil, mats_cons, mat_tup, List.getElem?_cons_zero, List.getElem?_cons_succ, List.set_cons_zero, List.set_cons_succ, decide_eq_true_eq, decide_eq_false_iff_not, wp_ok]
    generalize hm : (n * n + 7919 * (z + 1) ^ (2 : Int).toNat + 5) % 2305843009213693951 = m
    have m0 : 0 ≤ m := by rw [← hm]; exact Int.emod_nonneg _ (by decide)
    have m1 : m < 2305843009213693951 := by rw [← hm]; exact Int.emod_lt_of_pos _ (by decide)
    refine ⟨⟨by decide, by decide, by omega⟩, by decide, ⟨by decide, by
      have := log2_lt (n := (13 : Int).natAbs) (k := 64) (by decide) (by decide)
      omega⟩, h0, ?_⟩
    exact ret_q (hQ _ _ (Int.emod_nonneg _ (by omega)) (Int.emod_lt_of_pos _ h0) ⟨x, y, z + 1, rfl, hy, hy2, by omega, by omega⟩)
def bWell : List Nv.St := [
    .ite (.cmp .ge (.var 0) (.bin .pow (.int 10) (.int 18))) [
      .ret (.lst [(.bin .sub (.var 0) (.bin .pow (.int 10) (.int 18))), (.bin .mod (.var 0) (.int 2305843009213693951)), (.var 1)])] [],
    .ret (.lst [(.int 0), (.bin .mod (.var 0) (.int 2305843009213693951)), (.var 1)])]
theorem well_ok {P : Prog} {d i : Nat} {fn : Nv.Fn} (hf : P.fns[i]? = some fn) (hb : fn.body = bWell) (hp : fn.ps = 2) (hs : fn.slots = 2) (hg : fn.gc = false) {S : Store} {cell turn : Int} (h0 : 0 ≤ turn) {Q : D → Store → Prop}
    (hQ : ∀ o, BagOk turn o → Q (.new o) S) : wp ((sm P (d + 1)).call i [.int cell, .int turn] S) Q := by
  refine wp_call hf (by rw [hp]; rfl) (by rw [hp, hs]; decide) ?_
  rw [hb, hp, hs, hg]
  show wp (evalSs P (sm P d) bWell [some (.int cell), some (.int turn)] S) _
  have b : BagOk turn (bag 0 (cell % 2305843009213693951) turn) := ⟨_, _, _, rfl, Int.emod_nonneg _ (by decide), Int.emod_lt_of_pos _ (by decide), h0, Int.le_refl _⟩
  refine wp_cons (wp_S_ite ?_)
  simp only [we_var, we_non, we_bl, we_int, we_str, we_glb, ws_nil, ws_cons, we_tup, we_lst, we_bin, we_neg, we_cmp, we_chain, we_and1, we_or1, we_and, we_or, we_not, we_ite, we_idx, wo_none, wo_some, we_slc, we_attr, we_call, we_meth, we_make, we_makek, wmake, we_blt, we_bm, we_isi, we_comp, wf_nil, wf_one, wt_tru, wi_of, wi_range, wi_enum, wg_name, wg_tup, wg_nil, wg_cons, optQ_some, optQ_if, optQ_map, optQ_bind, tst_bl, tst_non, tst_int, b_add, b_sub, b_mul, b_fdiv, b_mod, b_pow, c_lt, c_le, c_gt, c_ge, c_eqI, c_neI, c_isI, c_notI, c_isN, c_notN, i_ii, i_ib, n_i, d_i, l_min, l_max, x_ref, x_new, x_tup, s_new, s_tup, y_new, at_0, at_1, at_2, mat_int, mat_bl, mat_str, mat_non, mat_ref, mats_nil, mats_cons, mat_tup, List.getElem?_cons_zero, List.getElem?_cons_succ, List.set_cons_zero, List.set_cons_succ, decide_eq_true_eq, decide_eq_false_iff_not, wp_ok]
  refine ⟨⟨by decide, by decide, by decide⟩, fun hx => ?_, fun hx => ?_⟩
  · refine wp_cons (wp_S_ret ?_)
    simp only [we_var, we_non, we_bl, we_int, we_str, we_glb, ws_nil, ws_cons, we_tup, we_lst, we_bin, we_neg, we_cmp, we_chain, we_and1, we_or1, we_and, we_or, we_not, we_ite, we_idx, wo_none, wo_some, we_slc, we_attr, we_call, we_meth, we_make, we_makek, wmake, we_blt, we_bm, we_isi, we_comp, wf_nil, wf_one, wt_tru, wi_of, wi_range, wi_enum, wg_name, wg_tup, wg_nil, wg_cons, optQ_some, optQ_if, optQ_map, optQ_bind, tst_bl, tst_non, tst_int, b_add, b_sub, b_mul, b_fdiv, b_mod, b_pow, c_lt, c_le, c_gt, c_ge, c_eqI, c_neI, c_isI, c_notI, c_isN, c_notN, i_ii, i_ib, n_i, d_i, l_min, l_max, x_ref, x_new, x_tup, s_new, s_tup, y_new, at_0, at_1, at_2, mat_int, mat_bl, mat_str, mat_non, mat_ref, mats_nil, mats_cons, mat_tup, List.getElem?_cons_zero, List.getElem?_cons_succ, List.set_cons_zero, List.set_cons_succ, decide_eq_true_eq, decide_eq_false_iff_not, wp_ok]
    refine ⟨⟨by decide, by decide, by decide⟩, by decide, (show (3 : Nat) ≤ sizeLine by decide), ?_⟩
    exact ret_q (hQ _ ⟨_, _, _, rfl, Int.emod_nonneg _ (by decide), Int.emod_lt_of_pos _ (by decide), h0, Int.le_refl _⟩)
  · refine wp_nil (wp_cons (wp_S_ret ?_))
    simp only [we_var, we_non, we_bl, we_int, we_str, we_glb, ws_nil, ws_cons, we_tup, we_lst, we_bin, we_neg, we_cmp, we_chain, we_and1, we_or1, we_and, we_or, we_not, we_ite, we_idx, wo_none, wo_some, we_slc, we_attr, we_call, we_meth, we_make, we_makek, wmake, we_blt, we_bm, we_isi, we_comp, wf_nil, wf_one, wt_tru, wi_of, wi_range, wi_enum, wg_name, wg_tup, wg_nil, wg_cons, optQ_some, optQ_if, optQ_map, optQ_bind, tst_bl, tst_non, tst_int, b_add, b_sub, b_mul, b_fdiv, b_mod, b_pow, c_lt, c_le, c_gt, c_ge, c_eqI, c_neI, c_isI, c_notI, c_isN, c_notN, i_ii, i_ib, n_i, d_i, l_min, l_max, x_ref, x_new, x_tup, s_new, s_tup, y_new, at_0, at_1, at_2, mat_int, mat_bl, mat_str, mat_non, mat_ref, mats_nil, mats_cons, mat_tup, List.getElem?_cons_zero, List.getElem?_cons_succ, List.set_cons_zero, List.set_cons_succ, decide_eq_true_eq, decide_eq_false_iff_not, wp_ok]
    refine ⟨by decide, (show (3 : Nat) ≤ sizeLine by decide), ?_⟩
    exact ret_q (hQ _ b)
def bBags (iw : Nat) (own : List (Str × Nat)) : List Nv.St := [
    .ret (.comp own (.tup [(.name 2), (.name 3)]) (.enum (.bin .add (.slc (.var 0) none (some (.var 1))) (.lst [(.int 0)]))) [] (.call iw [(.var 3), (.bin .mul (.int 977) (.var 2))]))]
theorem bags_ok {P : Prog} {d i iw : Nat} {fn fw : Nv.Fn} {own : List (Str × Nat)} (ho : own.map (·.2) = [2, 3]) (hw : P.fns[iw]? = some fw) (wb : fw.body = bWell) (w1 : fw.ps = 2) (w2 : fw.slots = 2) (w3 : fw.gc = false)
    (hf : P.fns[i]? = some fn) (hb : fn.body = bBags iw own) (hp : fn.ps = 2) (hs : fn.slots = 4) (hg : fn.gc = false) {S : Store} {ns : List Int} (hS : S[0]? = some (.frz (ns.map .int))) {most : Nat} (hm : most ≤ 1000) {Q : D → Store → Prop}
    (hQ : ∀ os : List O, (∀ o ∈ os, BagOk (977 * 1000) o) → Q (.new (.lst (os.map .new))) S) : wp ((sm P (d + 2)).call i [.ref 0, .int (most : Nat)] S) Q := by
  refine wp_call hf (by rw [hp]; rfl) (by rw [hp, hs]; decide) ?_
  rw [hb, hp, hs, hg]
  show wp (evalSs P (sm P (d + 1)) (bBags iw own) [some (.ref 0), some (.int (most : Nat)), none, none] S) _
  refine wp_cons (wp_S_ret ?_)
  have sl : slcD (.ref 0) none (some (most : Int)) S = some (.new (.lst (cutD (ns.map .int) none (some (most : Int))))) := by
    show (seqOf (.ref 0) S).map _ = _
    rw [s_frz hS]; rfl
  have cut : cutD (ns.map .int) none (some (most : Int)) = (ns.take most).map D.int := by
    unfold cutD
    rw [HT.sIx_none, HT.sIx_nat, List.drop_zero, Nat.sub_zero, List.map_take, List.length_map]
    by_cases h : most ≤ ns.length
    · rw [Nat.min_eq_left h]
    · rw [Nat.min_eq_right (by omega), List.take_of_length_le (by simp), List.take_of_length_le (by simp; omega)]
  have ad : binD .add (.new (.lst ((ns.take most).map D.int))) (.new (.lst [.int 0])) S = some (.new (.lst ((ns.take most).map D.int ++ [.int 0]))) := by
    show (if ((ns.take most).map D.int).length + [D.int 0].length ≤ sizeLine then some (D.new (.lst ((ns.take most).map D.int ++ [.int 0]))) else none) = _
    rw [if_pos]
    simp only [List.length_map, List.length_take, List.length_cons, List.length_nil]
    have : (2000 : Nat) ≤ sizeLine := by decide
    omega
  simp only [we_var, we_non, we_bl, we_int, we_str, we_glb, ws_nil, ws_cons, we_tup, we_lst, we_bin, we_neg, we_cmp, we_chain, we_and1, we_or1, we_and, we_or, we_not, we_ite, we_idx, wo_none, wo_some, we_slc, we_attr, we_call, we_meth, we_make, we_makek, wmake, we_blt, we_bm, we_isi, we_comp, wf_nil, wf_one, wt_tru, wi_of, wi_range, wi_enum, wg_name, wg_tup, wg_nil, wg_cons, optQ_some, optQ_if, optQ_map, optQ_bind, tst_bl, tst_non, tst_int, b_add, b_sub, b_mul, b_fdiv, b_mod, b_pow, c_lt, c_le, c_gt, c_ge, c_eqI, c_neI, c_isI, c_notI, c_isN, c_notN, i_ii, i_ib, n_i, d_i, l_min, l_max, x_ref, x_new, x_tup, s_new, s_tup, y_new, at_0, at_1, at_2, mat_int, mat_bl, mat_str, mat_non, mat_ref, mats_nil, mats_cons, mat_tup, List.getElem?_cons_zero, List.getElem?_cons_succ, List.set_cons_zero, List.set_cons_succ, decide_eq_true_eq, decide_eq_false_iff_not, wp_ok, sl, cut]
  refine ⟨by decide, ?_⟩
  simp only [ad, optQ_some, y_new, ho]
  generalize hi : (ns.take most).map D.int ++ [D.int 0] = items
  have hlen : items.length ≤ 1001 := by
    rw [← hi]; simp; omega
  have hit : ∀ i (d : D), items[i]? = some d → ∃ n, d = .int n := fun i d h => by
    have : d ∈ items := List.mem_of_getElem? h
    rw [← hi] at this
    rcases List.mem_append.mp this with q | q
    · obtain ⟨n, _, e⟩ := List.mem_map.mp q
      exact ⟨n, e.symm⟩
    · exact ⟨0, by simpa using q⟩
  refine wp_compF (fun j ys S' => S' = S ∧ j ≤ items.length ∧ ys.length ≤ j ∧ ∃ os : List O, ys = os.map .new ∧ ∀ o ∈ os, BagOk (977 * 1000) o) ⟨rfl, Nat.zero_le _, Nat.le_refl _, [], rfl, by simp⟩ (fun _ _ _ _ => rfl) ?_ ?_
  · rintro j d' ys S' hd ⟨rfl, hj, hy, os, rfl, hos⟩
    rw [enumD_at, Nat.zero_add] at hd
    cases hx : items[j]? with
    | none => rw [hx] at hd; cases hd
    | some x =>
      rw [hx] at hd
      cases hd
      obtain ⟨n, rfl⟩ := hit j x hx
      have hjl := (List.getElem?_eq_some_iff.mp hx).1
      simp only [we_var, we_non, we_bl, we_int, we_str, we_glb, ws_nil, ws_cons, we_tup, we_lst, we_bin, we_neg, we_cmp, we_chain, we_and1, we_or1, we_and, we_or, we_not, we_ite, we_idx, wo_none, wo_some, we_slc, we_attr, we_call, we_meth, we_make, we_makek, wmake, we_blt, we_bm, we_isi, we_comp, wf_nil, wf_one, wt_tru, wi_of, wi_range, wi_enum, wg_name, wg_tup, wg_nil, wg_cons, optQ_some, optQ_if, optQ_map, optQ_bind, tst_bl, tst_non, tst_int, b_add, b_sub, b_mul, b_fdiv, b_mod, b_pow, c_lt, c_le, c_gt, c_ge, c_eqI, c_neI, c_isI, c_notI, c_isN, c_notN, i_ii, i_ib, n_i, d_i, l_min, l_max, x_ref, x_new, x_tup, s_new, s_tup, y_new, at_0, at_1, at_2, mat_int, mat_bl, mat_str, mat_non, mat_ref, mats_nil, mats_cons, mat_tup, List.getElem?_cons_zero, List.getElem?_cons_succ, List.set_cons_zero, List.set_cons_succ, decide_eq_true_eq, decide_eq_false_iff_not, wp_ok, wipeD, true_implies, reduceCtorEq, false_implies, and_true]
      refine ⟨mul_ok (by decide) (by omega), ?_⟩
      refine well_ok hw wb w1 w2 w3 (by omega) fun o hbo => ⟨rfl, by omega, by simpa using hy, os ++ [o], by simp, fun o' ho' => ?_⟩
      rcases List.mem_append.mp ho' with q | q
      · exact hos o' q
      · have : o' = o := by simpa using q
        subst this
        exact hbo.mono (by omega)
  · rintro ys S' ⟨rfl, _, hy, os, rfl, hos⟩
    refine ⟨?_, ret_q (hQ os hos)⟩
    have : (2000 : Nat) ≤ sizeLine := by decide
    rw [enumD_len] at hy
    omega
end Nv
namespace Lwk84
open PySem PySem.Spec PyProof.Rows L2 Nv
/-- is_whole: 0 thing -/
def b0 : List Nv.St := [
    .ret (.and [(.isi (.var 0) .int), (.not (.isi (.var 0) .bool))])]
abbrev f0 : Nv.Fn := { name := "is_whole", ps := 1, slots := 1, gc := false, body := b0, pos := true }
/-- is_within: 0 thing, 1 low, 2 high -/
def b1 : List Nv.St := [
    .ret (.and [(.call 0 [(.var 0)]), (.chain .le .le (.var 1) (.var 0) (.var 2))])]
abbrev f1 : Nv.Fn := { name := "is_within", ps := 3, slots := 3, gc := false, body := b1, pos := true }
/-- _law_well: 0 cell, 1 turn -/
def b2 : List Nv.St := [
    .ite (.cmp .ge (.var 0) (.bin .pow (.int 10) (.int 18))) [
      .ret (.lst [(.bin .sub (.var 0) (.bin .pow (.int 10) (.int 18))), (.bin .mod (.var 0) (.int 2305843009213693951)), (.var 1)])] [],
    .ret (.lst [(.int 0), (.bin .mod (.var 0) (.int 2305843009213693951)), (.var 1)])]
abbrev f2 : Nv.Fn := { name := "_law_well", ps := 2, slots := 2, gc := false, body := b2, pos := true }
/-- _law_take: 0 bag, 1 many, 2 found, 3 p, 4 n -/
def b3 : List Nv.St := [
    .ite (.cmp .gt (.idx (.var 0) (.int 0)) (.int 0)) [
      .set 2 (.bin .mod (.idx (.var 0) (.int 0)) (.var 1)),
      .sub (.var 0) (.int 0) (.bin .fdiv (.idx (.var 0) (.int 0)) (.var 1)),
      .ret (.var 2)] [],
    .sub (.var 0) (.int 2) (.bin .add (.idx (.var 0) (.int 2)) (.int 1)),
    .set 3 (.int 2305843009213693951),
    .set 4 (.bin .mod (.bin .add (.idx (.var 0) (.int 1)) (.bin .mul (.int 1000003) (.idx (.var 0) (.int 2)))) (.var 3)),
    .set 4 (.bin .mod (.bin .add (.bin .add (.bin .mul (.var 4) (.var 4)) (.bin .mul (.int 7919) (.bin .pow (.idx (.var 0) (.int 2)) (.int 2)))) (.int 5)) (.var 3)),
    .ret (.bin .mod (.bin .fdiv (.bin .mod (.bin .pow (.var 4) (.int 3)) (.var 3)) (.int 13)) (.var 1))]
abbrev f3 : Nv.Fn := { name := "_law_take", ps := 2, slots := 5, gc := false, body := b3, pos := true }
/-- _law_bags: 0 script, 1 most, 2 k, 3 cell -/
def b4 : List Nv.St := [
    .ret (.comp [("k", 2), ("cell", 3)] (.tup [(.name 2), (.name 3)]) (.enum (.bin .add (.slc (.var 0) none (some (.var 1))) (.lst [(.int 0)]))) [] (.call 2 [(.var 3), (.bin .mul (.int 977) (.var 2))]))]
abbrev f4 : Nv.Fn := { name := "_law_bags", ps := 2, slots := 4, gc := false, body := b4, pos := true }
/-- _law_call: 0 gate, 1 budget, 2 good, 3 found, 4 attempt -/
def b5 : List Nv.St := [
    .expr (.meth (.var 1) 0 12 8 []),
    .set 3 (.int 0),
    .forr (.name 4) (.range [(.int 4)]) [
      .ite (.or [(.cmp .eq (.meth (.var 0) 1 17 14 []) (.str "shut")), (.and [(.cmp .gt (.var 4) (.int 0)), (.not (.meth (.var 1) 0 13 9 []))])]) [
        .ret (.var 3)] [],
      .ite (.cmp .gt (.var 4) (.int 0)) [
        .expr (.meth (.var 1) 0 14 10 [])] [],
      .expr (.meth (.var 0) 1 18 15 []),
      .expr (.meth (.var 0) 1 19 16 [(.var 2)]),
      .set 3 (.bin .add (.var 3) (.int 1)),
      .ite (.var 2) [
        .ret (.var 3)] []] none,
    .ret (.var 3)]
abbrev f5 : Nv.Fn := { name := "_law_call", ps := 3, slots := 5, gc := false, body := b5, pos := true }
/-- law: 0 script, 1 bag, 2 limit, 3 rest, 4 price, 5 gate, 6 budget, 7 now, 8 good, 9 since, 10 turn, 11 before, 12 found, 13 some, 14 row -/
def b6 : List Nv.St := [
    .forr (.name 1) (.of (.call 4 [(.var 0), (.int 6)])) [
      .par [2, 3] [(.bin .add (.int 1) (.call 3 [(.var 1), (.int 5)])), (.bin .add (.int 1) (.call 3 [(.var 1), (.int 20)]))],
      .set 4 (.bin .add (.int 1) (.call 3 [(.var 1), (.int 4)])),
      .par [5, 6] [(.make 1 [(.var 2), (.var 3)]), (.makek 0 [(.int 10), (.var 4)] [] [] [.inr (.non)])],
      .set 7 (.int 0),
      .set 8 (.bl true),
      .set 9 (.int 0),
      .forr (.name 10) (.range [(.int 200)]) [
        .set 7 (.bin .add (.bin .add (.var 7) (.int 1)) (.call 3 [(.var 1), (.int 3)])),
        .expr (.meth (.var 5) 1 16 13 [(.var 7)]),
        .ite (.cmp .eq (.call 3 [(.var 1), (.int 12)]) (.int 0)) [
          .set 8 (.not (.var 8)),
          .set 9 (.var 7)] [],
        .set 11 (.meth (.var 5) 1 17 14 []),
        .set 12 (.call 5 [(.var 5), (.var 6), (.var 8)]),
        .ite (.cmp .ne (.cmp .eq (.var 12) (.int 0)) (.cmp .eq (.var 11) (.str "shut"))) [
          .ret (.bl false)] [],
        .ite (.and [(.var 8), (.cmp .ne (.var 11) (.str "shut")), (.or [(.cmp .ne (.var 12) (.int 1)), (.cmp .ne (.meth (.var 5) 1 17 14 []) (.str "open"))])]) [
          .ret (.bl false)] [],
        .ite (.and [(.var 8), (.cmp .gt (.var 7) (.bin .add (.var 9) (.var 3))), (.cmp .ne (.meth (.var 5) 1 17 14 []) (.str "open"))]) [
          .ret (.bl false)] [],
        .ite (.and [(.not (.var 8)), (.cmp .eq (.var 11) (.str "ajar")), (.or [(.cmp .ne (.var 12) (.int 1)), (.cmp .ne (.meth (.var 5) 1 17 14 []) (.str "shut"))])]) [
          .ret (.bl false)] [],
        .ite (.cmp .gt (.bin .mul (.idx (.meth (.var 6) 0 15 11 []) (.int 2)) (.var 4)) (.bin .add (.bin .add (.int 10) (.var 10)) (.int 1))) [
          .ret (.bl false)] []] none,
      .set 13 (.comp [("row", 14)] (.name 14) (.of (.meth (.var 5) 1 20 17 [])) [(.cmp .eq (.idx (.var 14) (.int 1)) (.str "ask"))] (.var 14)),
      .ite (.or [(.cmp .ne (.bin .mul (.blt .len [(.var 13)]) (.int 2)) (.blt .len [(.meth (.var 5) 1 20 17 [])])), (.cmp .ne (.idx (.meth (.var 6) 0 15 11 []) (.int 1)) (.int 200))]) [
        .ret (.bl false)] []] (some [1, 2, 3, 4, 5, 6, 7, 8, 9, 10, 11, 12, 13, 14]),
    .ret (.bl true)]
abbrev f6 : Nv.Fn := { name := "law", ps := 1, slots := 15, gc := false, body := b6, pos := true }
/-- Budget.__init__: 0 self, 1 most, 2 price, 3 start -/
def b7 : List Nv.St := [
    .ite (.or [(.not (.call 1 [(.var 1), (.int 1), (.glb 0)])), (.not (.call 1 [(.var 2), (.int 1), (.var 1)]))]) [
      .raise] [],
    .ite (.and [(.cmp .notN (.var 3) .non), (.not (.call 1 [(.var 3), (.int 0), (.var 1)]))]) [
      .raise] [],
    .attr (.var 0) 0 (.var 1),
    .attr (.var 0) 1 (.var 2),
    .attr (.var 0) 2 (.ite (.cmp .isN (.var 3) .non) (.var 1) (.var 3)),
    .attr (.var 0) 3 (.int 0),
    .attr (.var 0) 4 (.int 0)]
abbrev f7 : Nv.Fn := { name := "", ps := 4, slots := 4, gc := false, body := b7, pos := false }
/-- Budget.call: 0 self -/
def b8 : List Nv.St := [
    .attr (.var 0) 3 (.bin .add (.attr (.var 0) 3) (.int 1)),
    .attr (.var 0) 2 (.blt .min [(.attr (.var 0) 0), (.bin .add (.attr (.var 0) 2) (.int 1))])]
abbrev f8 : Nv.Fn := { name := "", ps := 1, slots := 1, gc := false, body := b8, pos := true }
/-- Budget.may: 0 self -/
def b9 : List Nv.St := [
    .ret (.cmp .ge (.attr (.var 0) 2) (.attr (.var 0) 1))]
abbrev f9 : Nv.Fn := { name := "", ps := 1, slots := 1, gc := false, body := b9, pos := true }
/-- Budget.again: 0 self -/
def b10 : List Nv.St := [
    .ite (.not (.meth (.var 0) 0 13 9 [])) [
      .raise] [],
    .attr (.var 0) 2 (.bin .sub (.attr (.var 0) 2) (.attr (.var 0) 1)),
    .attr (.var 0) 4 (.bin .add (.attr (.var 0) 4) (.int 1))]
abbrev f10 : Nv.Fn := { name := "", ps := 1, slots := 1, gc := false, body := b10, pos := true }
/-- Budget.counts: 0 self -/
def b11 : List Nv.St := [
    .ret (.tup [(.attr (.var 0) 2), (.attr (.var 0) 3), (.attr (.var 0) 4)])]
abbrev f11 : Nv.Fn := { name := "", ps := 1, slots := 1, gc := false, body := b11, pos := true }
/-- Gate.__init__: 0 self, 1 limit, 2 rest -/
def b12 : List Nv.St := [
    .ite (.or [(.not (.call 1 [(.var 1), (.int 1), (.glb 0)])), (.not (.call 1 [(.var 2), (.int 1), (.glb 0)]))]) [
      .raise] [],
    .attr (.var 0) 5 (.var 1),
    .attr (.var 0) 6 (.var 2),
    .attr (.var 0) 7 (.int 0),
    .attr (.var 0) 8 (.int 0),
    .attr (.var 0) 9 .non,
    .attr (.var 0) 10 (.bl false),
    .attr (.var 0) 11 (.lst [])]
abbrev f12 : Nv.Fn := { name := "", ps := 3, slots := 3, gc := false, body := b12, pos := true }
/-- Gate.go_to: 0 self, 1 time -/
def b13 : List Nv.St := [
    .ite (.not (.call 1 [(.var 1), (.attr (.var 0) 7), (.glb 1)])) [
      .raise] [],
    .attr (.var 0) 7 (.var 1)]
abbrev f13 : Nv.Fn := { name := "", ps := 2, slots := 2, gc := false, body := b13, pos := true }
/-- Gate.state: 0 self -/
def b14 : List Nv.St := [
    .ite (.cmp .isN (.attr (.var 0) 9) .non) [
      .ret (.str "open")] [],
    .ret (.ite (.cmp .lt (.attr (.var 0) 7) (.attr (.var 0) 9)) (.str "shut") (.str "ajar"))]
abbrev f14 : Nv.Fn := { name := "", ps := 1, slots := 1, gc := false, body := b14, pos := true }
/-- Gate.ask: 0 self -/
def b15 : List Nv.St := [
    .ite (.or [(.cmp .eq (.meth (.var 0) 1 17 14 []) (.str "shut")), (.and [(.cmp .eq (.meth (.var 0) 1 17 14 []) (.str "ajar")), (.attr (.var 0) 10)])]) [
      .raise] [],
    .attr (.var 0) 10 (.bl true),
    .expr (.bm .append (.attr (.var 0) 11) [(.tup [(.attr (.var 0) 7), (.str "ask")])])]
abbrev f15 : Nv.Fn := { name := "", ps := 1, slots := 1, gc := false, body := b15, pos := true }
/-- Gate.end: 0 self, 1 good -/
def b16 : List Nv.St := [
    .ite (.not (.attr (.var 0) 10)) [
      .raise] [],
    .attr (.var 0) 10 (.bl false),
    .expr (.bm .append (.attr (.var 0) 11) [(.tup [(.attr (.var 0) 7), (.ite (.var 1) (.str "good") (.str "bad"))])]),
    .ite (.var 1) [
      .attr (.var 0) 8 (.int 0),
      .attr (.var 0) 9 .non] [
      .attr (.var 0) 8 (.bin .add (.attr (.var 0) 8) (.int 1)),
      .ite (.or [(.cmp .notN (.attr (.var 0) 9) .non), (.cmp .ge (.attr (.var 0) 8) (.attr (.var 0) 5))]) [
        .attr (.var 0) 9 (.bin .add (.attr (.var 0) 7) (.attr (.var 0) 6)),
        .attr (.var 0) 8 (.int 0)] []]]
abbrev f16 : Nv.Fn := { name := "", ps := 2, slots := 2, gc := false, body := b16, pos := true }
/-- Gate.log: 0 self -/
def b17 : List Nv.St := [
    .ret (.blt .list [(.attr (.var 0) 11)])]
abbrev f17 : Nv.Fn := { name := "", ps := 1, slots := 1, gc := false, body := b17, pos := true }
def P : Nv.Prog where
  fns := [f0, f1, f2, f3, f4, f5, f6, f7, f8, f9, f10, f11, f12, f13, f14, f15, f16, f17]
  cls := [{ name := "Budget", init := 7, meths := [(12, 8), (13, 9), (14, 10), (15, 11)] }, { name := "Gate", init := 12, meths := [(16, 13), (17, 14), (18, 15), (19, 16), (20, 17)] }]
  globs := [("MOST_LIMIT", .int 1000), ("MOST_TIME", .int 1000000000)]
  syms := ["most", "price", "held", "called", "retried", "limit", "rest", "clock", "row", "until", "out", "rows", "call", "may", "again", "counts", "go_to", "state", "ask", "end", "log"]
  nf := 12
  free := ["isinstance", "int", "bool", "enumerate", "range", "len", "min", "list"]
  kws := [(0, 2, [], [.inr (.non)])]
/-! ### the text -/
def top (i : Nat) : Stmt := PySem.Challenge.pw_faultward_k84_whole_calls_through_gates.main.body.getD i (.Pass ⟨0, 0, 0, 0⟩)
def mth (i j : Nat) : Stmt := (Nv.clsB (top i)).getD j (.Pass ⟨0, 0, 0, 0⟩)
def d0 : He.DefD := ⟨("is_whole", none), "is_whole", "is_whole", defArgs (top 9), defBody (top 9), defScope (top 9), [], []⟩
def d1 : He.DefD := ⟨("is_within", none), "is_within", "is_within", defArgs (top 10), defBody (top 10), defScope (top 10), [], []⟩
def d2 : He.DefD := ⟨("_law_well", none), "_law_well", "_law_well", defArgs (top 17), defBody (top 17), defScope (top 17), [], []⟩
def d3 : He.DefD := ⟨("_law_take", none), "_law_take", "_law_take", defArgs (top 18), defBody (top 18), defScope (top 18), [], []⟩
def d4 : He.DefD := ⟨("_law_bags", none), "_law_bags", "_law_bags", defArgs (top 19), defBody (top 19), defScope (top 19), [], []⟩
def d5 : He.DefD := ⟨("_law_call", none), "_law_call", "_law_call", defArgs (top 20), defBody (top 20), defScope (top 20), [], []⟩
def d6 : He.DefD := ⟨("law", none), "law", "law", defArgs (top 21), defBody (top 21), defScope (top 21), [], []⟩
def d7 : He.DefD := ⟨("Budget", some "__init__"), "__init__", "Budget.__init__", defArgs (mth 14 0), defBody (mth 14 0), defScope (mth 14 0), [], [("start", .non)]⟩
def d8 : He.DefD := ⟨("Budget", some "call"), "call", "Budget.call", defArgs (mth 14 1), defBody (mth 14 1), defScope (mth 14 1), [], []⟩
def d9 : He.DefD := ⟨("Budget", some "may"), "may", "Budget.may", defArgs (mth 14 2), defBody (mth 14 2), defScope (mth 14 2), [], []⟩
def d10 : He.DefD := ⟨("Budget", some "again"), "again", "Budget.again", defArgs (mth 14 3), defBody (mth 14 3), defScope (mth 14 3), [], []⟩
def d11 : He.DefD := ⟨("Budget", some "counts"), "counts", "Budget.counts", defArgs (mth 14 4), defBody (mth 14 4), defScope (mth 14 4), [], []⟩
def d12 : He.DefD := ⟨("Gate", some "__init__"), "__init__", "Gate.__init__", defArgs (mth 15 0), defBody (mth 15 0), defScope (mth 15 0), [], []⟩
def d13 : He.DefD := ⟨("Gate", some "go_to"), "go_to", "Gate.go_to", defArgs (mth 15 1), defBody (mth 15 1), defScope (mth 15 1), [], []⟩
def d14 : He.DefD := ⟨("Gate", some "state"), "state", "Gate.state", defArgs (mth 15 2), defBody (mth 15 2), defScope (mth 15 2), [], []⟩
def d15 : He.DefD := ⟨("Gate", some "ask"), "ask", "Gate.ask", defArgs (mth 15 3), defBody (mth 15 3), defScope (mth 15 3), [], []⟩
def d16 : He.DefD := ⟨("Gate", some "end"), "end", "Gate.end", defArgs (mth 15 4), defBody (mth 15 4), defScope (mth 15 4), [], []⟩
def d17 : He.DefD := ⟨("Gate", some "log"), "log", "Gate.log", defArgs (mth 15 5), defBody (mth 15 5), defScope (mth 15 5), [], []⟩
def dn : List He.DefD := [d0, d1, d2, d3, d4, d5, d6, d7, d8, d9, d10, d11, d12, d13, d14, d15, d16, d17]
theorem df0 {K : PySem.W.Frag} (sy : He.SaysD (faOf P) dn K) : ∃ fd ps, DefOk (cxtN P K) P K (faN dn K 0) 0 f0 fd ps := by
  obtain ⟨fd, F⟩ := sy.def_ 0 (d := d0) rfl
  exact ⟨fd, ["thing"], ⟨["thing"], _, _, _, _, _, _, _, F, ⟨rfl, rfl, rfl, by decide +kernel, rfl, by decide +kernel, by decide +kernel⟩, rfl, by kernel_rfl⟩, rfl, F.kp, fun _ => F.bindsN (ps := ["thing"]) fun _ _ _ _ _ _ us hl => match us, hl with | [_], _ => rfl, kw_none (by kernel_rfl)⟩
theorem df1 {K : PySem.W.Frag} (sy : He.SaysD (faOf P) dn K) : ∃ fd ps, DefOk (cxtN P K) P K (faN dn K 1) 1 f1 fd ps := by
  obtain ⟨fd, F⟩ := sy.def_ 1 (d := d1) rfl
  exact ⟨fd, ["thing", "low", "high"], ⟨["thing", "low", "high"], _, _, _, _, _, _, _, F, ⟨rfl, rfl, rfl, by decide +kernel, rfl, by decide +kernel, by decide +kernel⟩, rfl, by kernel_rfl⟩, rfl, F.kp, fun _ => F.bindsN (ps := ["thing", "low", "high"]) fun _ _ _ _ _ _ us hl => match us, hl with | [_, _, _], _ => rfl, kw_none (by kernel_rfl)⟩
theorem df2 {K : PySem.W.Frag} (sy : He.SaysD (faOf P) dn K) : ∃ fd ps, DefOk (cxtN P K) P K (faN dn K 2) 2 f2 fd ps := by
  obtain ⟨fd, F⟩ := sy.def_ 2 (d := d2) rfl
  exact ⟨fd, ["cell", "turn"], ⟨["cell", "turn"], _, _, _, _, _, _, _, F, ⟨rfl, rfl, rfl, by decide +kernel, rfl, by decide +kernel, by decide +kernel⟩, rfl, by kernel_rfl⟩, rfl, F.kp, fun _ => F.bindsN (ps := ["cell", "turn"]) fun _ _ _ _ _ _ us hl => match us, hl with | [_, _], _ => rfl, kw_none (by kernel_rfl)⟩
theorem df3 {K : PySem.W.Frag} (sy : He.SaysD (faOf P) dn K) : ∃ fd ps, DefOk (cxtN P K) P K (faN dn K 3) 3 f3 fd ps := by
  obtain ⟨fd, F⟩ := sy.def_ 3 (d := d3) rfl
  exact ⟨fd, ["bag", "many"], ⟨["bag", "many", "found", "p", "n"], _, _, _, _, _, _, _, F, ⟨rfl, rfl, rfl, by decide +kernel, rfl, by decide +kernel, by decide +kernel⟩, rfl, by kernel_rfl⟩, rfl, F.kp, fun _ => F.bindsN (ps := ["bag", "many"]) fun _ _ _ _ _ _ us hl => match us, hl with | [_, _], _ => rfl, kw_none (by kernel_rfl)⟩
theorem df4 {K : PySem.W.Frag} (sy : He.SaysD (faOf P) dn K) : ∃ fd ps, DefOk (cxtN P K) P K (faN dn K 4) 4 f4 fd ps := by
  obtain ⟨fd, F⟩ := sy.def_ 4 (d := d4) rfl
  exact ⟨fd, ["script", "most"], ⟨["script", "most", "k", "cell"], _, _, _, _, _, _, _, F, ⟨rfl, rfl, rfl, by decide +kernel, rfl, by decide +kernel, by decide +kernel⟩, rfl, by kernel_rfl⟩, rfl, F.kp, fun _ => F.bindsN (ps := ["script", "most"]) fun _ _ _ _ _ _ us hl => match us, hl with | [_, _], _ => rfl, kw_none (by kernel_rfl)⟩
theorem df5 {K : PySem.W.Frag} (sy : He.SaysD (faOf P) dn K) : ∃ fd ps, DefOk (cxtN P K) P K (faN dn K 5) 5 f5 fd ps := by
  obtain ⟨fd, F⟩ := sy.def_ 5 (d := d5) rfl
  exact ⟨fd, ["gate", "budget", "good"], ⟨["gate", "budget", "good", "found", "attempt"], _, _, _, _, _, _, _, F, ⟨rfl, rfl, rfl, by decide +kernel, rfl, by decide +kernel, by decide +kernel⟩, rfl, by kernel_rfl⟩, rfl, F.kp, fun _ => F.bindsN (ps := ["gate", "budget", "good"]) fun _ _ _ _ _ _ us hl => match us, hl with | [_, _, _], _ => rfl, kw_none (by kernel_rfl)⟩
theorem df6 {K : PySem.W.Frag} (sy : He.SaysD (faOf P) dn K) : ∃ fd ps, DefOk (cxtN P K) P K (faN dn K 6) 6 f6 fd ps := by
  obtain ⟨fd, F⟩ := sy.def_ 6 (d := d6) rfl
  exact ⟨fd, ["script"], ⟨["script", "bag", "limit", "rest", "price", "gate", "budget", "now", "good", "since", "turn", "before", "found", "some", "row"], _, _, _, _, _, _, _, F, ⟨rfl, rfl, rfl, by decide +kernel, rfl, by decide +kernel, by decide +kernel⟩, rfl, by kernel_rfl⟩, rfl, F.kp, fun _ => F.bindsN (ps := ["script"]) fun _ _ _ _ _ _ us hl => match us, hl with | [_], _ => rfl, kw_none (by kernel_rfl)⟩
theorem kw7 {K : PySem.W.Frag} {fd : FuncData} (F : FunD K d7.name d7.qual d7.params d7.body d7.scope (d7.dvs K) (d7.kws K) (He.fAd K d7.at_) fd) : ∀ q ∈ P.kws, initOf P q.1 = some 7 → KwOk (cxtN P K) K fd ["self", "most", "price", "start"] q.2.1 q.2.2.1 q.2.2.2 := by
  intro q hq e
  have hq : q ∈ ([(0, 2, [], [.inr (.non)])] : List (Nat × Nat × List Str × List (Nat ⊕ D))) := hq
  simp only [List.mem_cons, List.not_mem_nil, or_false] at hq
  rcases hq with rfl
  · exact kw_miss [("start", V.non)] [.non] F (fun h => nomatch (show ([("start", V.non)] : List (Str × V)) = [] from h)) (fun q h => h) (fun _ _ => .cons (.non) .nil) rfl fun _ _ _ _ _ _ us mv h1 h2 => match us, mv, h1, h2 with | [_, _, _], [_], _, _ => ⟨_, _, _, _, _, _, rfl, rfl, rfl⟩
theorem df7 {K : PySem.W.Frag} (sy : He.SaysD (faOf P) dn K) : ∃ fd ps, DefOk (cxtN P K) P K (faN dn K 7) 7 f7 fd ps := by
  obtain ⟨fd, F⟩ := sy.def_ 7 (d := d7) rfl
  exact ⟨fd, ["self", "most", "price", "start"], ⟨["self", "most", "price", "start"], _, _, _, _, _, _, _, F, ⟨rfl, rfl, rfl, by decide +kernel, rfl, by decide +kernel, by decide +kernel⟩, rfl, by kernel_rfl⟩, rfl, F.kp, (fun h => by cases h), kw7 F⟩
theorem df8 {K : PySem.W.Frag} (sy : He.SaysD (faOf P) dn K) : ∃ fd ps, DefOk (cxtN P K) P K (faN dn K 8) 8 f8 fd ps := by
  obtain ⟨fd, F⟩ := sy.def_ 8 (d := d8) rfl
  exact ⟨fd, ["self"], ⟨["self"], _, _, _, _, _, _, _, F, ⟨rfl, rfl, rfl, by decide +kernel, rfl, by decide +kernel, by decide +kernel⟩, rfl, by kernel_rfl⟩, rfl, F.kp, fun _ => F.bindsN (ps := ["self"]) fun _ _ _ _ _ _ us hl => match us, hl with | [_], _ => rfl, kw_none (by kernel_rfl)⟩
theorem df9 {K : PySem.W.Frag} (sy : He.SaysD (faOf P) dn K) : ∃ fd ps, DefOk (cxtN P K) P K (faN dn K 9) 9 f9 fd ps := by
  obtain ⟨fd, F⟩ := sy.def_ 9 (d := d9) rfl
  exact ⟨fd, ["self"], ⟨["self"], _, _, _, _, _, _, _, F, ⟨rfl, rfl, rfl, by decide +kernel, rfl, by decide +kernel, by decide +kernel⟩, rfl, by kernel_rfl⟩, rfl, F.kp, fun _ => F.bindsN (ps := ["self"]) fun _ _ _ _ _ _ us hl => match us, hl with | [_], _ => rfl, kw_none (by kernel_rfl)⟩
theorem df10 {K : PySem.W.Frag} (sy : He.SaysD (faOf P) dn K) : ∃ fd ps, DefOk (cxtN P K) P K (faN dn K 10) 10 f10 fd ps := by
  obtain ⟨fd, F⟩ := sy.def_ 10 (d := d10) rfl
  exact ⟨fd, ["self"], ⟨["self"], _, _, _, _, _, _, _, F, ⟨rfl, rfl, rfl, by decide +kernel, rfl, by decide +kernel, by decide +kernel⟩, rfl, by kernel_rfl⟩, rfl, F.kp, fun _ => F.bindsN (ps := ["self"]) fun _ _ _ _ _ _ us hl => match us, hl with | [_], _ => rfl, kw_none (by kernel_rfl)⟩
theorem df11 {K : PySem.W.Frag} (sy : He.SaysD (faOf P) dn K) : ∃ fd ps, DefOk (cxtN P K) P K (faN dn K 11) 11 f11 fd ps := by
  obtain ⟨fd, F⟩ := sy.def_ 11 (d := d11) rfl
  exact ⟨fd, ["self"], ⟨["self"], _, _, _, _, _, _, _, F, ⟨rfl, rfl, rfl, by decide +kernel, rfl, by decide +kernel, by decide +kernel⟩, rfl, by kernel_rfl⟩, rfl, F.kp, fun _ => F.bindsN (ps := ["self"]) fun _ _ _ _ _ _ us hl => match us, hl with | [_], _ => rfl, kw_none (by kernel_rfl)⟩
theorem df12 {K : PySem.W.Frag} (sy : He.SaysD (faOf P) dn K) : ∃ fd ps, DefOk (cxtN P K) P K (faN dn K 12) 12 f12 fd ps := by
  obtain ⟨fd, F⟩ := sy.def_ 12 (d := d12) rfl
  exact ⟨fd, ["self", "limit", "rest"], ⟨["self", "limit", "rest"], _, _, _, _, _, _, _, F, ⟨rfl, rfl, rfl, by decide +kernel, rfl, by decide +kernel, by decide +kernel⟩, rfl, by kernel_rfl⟩, rfl, F.kp, fun _ => F.bindsN (ps := ["self", "limit", "rest"]) fun _ _ _ _ _ _ us hl => match us, hl with | [_, _, _], _ => rfl, kw_none (by kernel_rfl)⟩
theorem df13 {K : PySem.W.Frag} (sy : He.SaysD (faOf P) dn K) : ∃ fd ps, DefOk (cxtN P K) P K (faN dn K 13) 13 f13 fd ps := by
  obtain ⟨fd, F⟩ := sy.def_ 13 (d := d13) rfl
  exact ⟨fd, ["self", "time"], ⟨["self", "time"], _, _, _, _, _, _, _, F, ⟨rfl, rfl, rfl, by decide +kernel, rfl, by decide +kernel, by decide +kernel⟩, rfl, by kernel_rfl⟩, rfl, F.kp, fun _ => F.bindsN (ps := ["self", "time"]) fun _ _ _ _ _ _ us hl => match us, hl with | [_, _], _ => rfl, kw_none (by kernel_rfl)⟩
theorem df14 {K : PySem.W.Frag} (sy : He.SaysD (faOf P) dn K) : ∃ fd ps, DefOk (cxtN P K) P K (faN dn K 14) 14 f14 fd ps := by
  obtain ⟨fd, F⟩ := sy.def_ 14 (d := d14) rfl
  exact ⟨fd, ["self"], ⟨["self"], _, _, _, _, _, _, _, F, ⟨rfl, rfl, rfl, by decide +kernel, rfl, by decide +kernel, by decide +kernel⟩, rfl, by kernel_rfl⟩, rfl, F.kp, fun _ => F.bindsN (ps := ["self"]) fun _ _ _ _ _ _ us hl => match us, hl with | [_], _ => rfl, kw_none (by kernel_rfl)⟩
theorem df15 {K : PySem.W.Frag} (sy : He.SaysD (faOf P) dn K) : ∃ fd ps, DefOk (cxtN P K) P K (faN dn K 15) 15 f15 fd ps := by
  obtain ⟨fd, F⟩ := sy.def_ 15 (d := d15) rfl
  exact ⟨fd, ["self"], ⟨["self"], _, _, _, _, _, _, _, F, ⟨rfl, rfl, rfl, by decide +kernel, rfl, by decide +kernel, by decide +kernel⟩, rfl, by kernel_rfl⟩, rfl, F.kp, fun _ => F.bindsN (ps := ["self"]) fun _ _ _ _ _ _ us hl => match us, hl with | [_], _ => rfl, kw_none (by kernel_rfl)⟩
theorem df16 {K : PySem.W.Frag} (sy : He.SaysD (faOf P) dn K) : ∃ fd ps, DefOk (cxtN P K) P K (faN dn K 16) 16 f16 fd ps := by
  obtain ⟨fd, F⟩ := sy.def_ 16 (d := d16) rfl
  exact ⟨fd, ["self", "good"], ⟨["self", "good"], _, _, _, _, _, _, _, F, ⟨rfl, rfl, rfl, by decide +kernel, rfl, by decide +kernel, by decide +kernel⟩, rfl, by kernel_rfl⟩, rfl, F.kp, fun _ => F.bindsN (ps := ["self", "good"]) fun _ _ _ _ _ _ us hl => match us, hl with | [_, _], _ => rfl, kw_none (by kernel_rfl)⟩
theorem df17 {K : PySem.W.Frag} (sy : He.SaysD (faOf P) dn K) : ∃ fd ps, DefOk (cxtN P K) P K (faN dn K 17) 17 f17 fd ps := by
  obtain ⟨fd, F⟩ := sy.def_ 17 (d := d17) rfl
  exact ⟨fd, ["self"], ⟨["self"], _, _, _, _, _, _, _, F, ⟨rfl, rfl, rfl, by decide +kernel, rfl, by decide +kernel, by decide +kernel⟩, rfl, by kernel_rfl⟩, rfl, F.kp, fun _ => F.bindsN (ps := ["self"]) fun _ _ _ _ _ _ us hl => match us, hl with | [_], _ => rfl, kw_none (by kernel_rfl)⟩
theorem tab : tabB P dn = true := by kernel_rfl
theorem alld {K : PySem.W.Frag} (sy : He.SaysD (faOf P) dn K) : DefAll (cxtN P K) P K (faN dn K) 0 P.fns := ⟨df0 sy, df1 sy, df2 sy, df3 sy, df4 sy, df5 sy, df6 sy, df7 sy, df8 sy, df9 sy, df10 sy, df11 sy, df12 sy, df13 sy, df14 sy, df15 sy, df16 sy, df17 sy, trivial⟩
abbrev Ro : PySem.W.OpenRow := PySem.W.OpenLaw.row PySem.Challenge.rw_faultward_k84_whole_calls_through_gates
def ob (s : PySem.W.SharedT) : AlN := obsN 5 P dn (HandSHeadRun.getT s)
theorem ob_eq (s : PySem.W.SharedT) : ob s = (hookN 5 P dn).obs s.abs := obsN_eq (HandSHeadRun.getT_eq s)
def loose : List PySem.Str := ((PySem.Challenge.pw_faultward_k84_whole_calls_through_gates.main.scope.names.map (·.1)).filter fun x => decide (x ≠ "law") && decide (x ≠ "__name__"))
theorem run (w : World) : HandSHeadRun.RunEq Ro (PySem.W.view Ro.prog [21]) (hookN 5 P dn) ob 3000 loose w := by
  intro os
  kernel_rfl
theorem lawSc : FnScope ["script", "bag", "limit", "rest", "price", "gate", "budget", "now", "good", "since", "turn", "before", "found", "some", "row"] ["script"] d6.scope := ⟨rfl, rfl, rfl, by decide +kernel, rfl, by decide +kernel, by decide +kernel⟩
end Lwk84
open PySem PySem.W PySem.Calls PyProof.Rows
theorem Lwk84.holds (main : ∀ ns : List Int, ns.length ≤ 63 → ∃ S, Nv.lawRun Lwk84.P 12 6 ns = .ok (.bl true) S) : PySem.Challenge.rw_faultward_k84_whole_calls_through_gates.Holds := by
  w_on; o_law
  refine HandSHeadRun.head_any (r := OpenLaw.row PySem.Challenge.rw_faultward_k84_whole_calls_through_gates) (q := view (OpenLaw.row PySem.Challenge.rw_faultward_k84_whole_calls_through_gates).prog [21]) (H := Nv.hookN 5 Lwk84.P Lwk84.dn) (ob := Lwk84.ob) (M := 3000) (loose := Lwk84.loose) (d := HandSHeadRun.topDef (OpenLaw.row PySem.Challenge.rw_faultward_k84_whole_calls_through_gates).prog 21) (kwd := []) Lwk84.ob_eq
    (by kernel_rfl) (fun s => by kernel_rfl) Lwk84.run (by kernel_rfl) (by kernel_rfl) (by kernel_rfl) (by rfl) (by first | assumption | decide +kernel) (by decide +kernel) ⟨rfl, rfl, rfl, rfl, rfl, by decide +kernel⟩ ?hw ?hc
  case hw => w_witness2
  case hc =>
    refine L2.walk_ofE (l := PySem.Challenge.rw_faultward_k84_whole_calls_through_gates) (n := 63) (k := 13) (x := "script") (CX := L2.CX0) rfl (by decide) (by kernel_rfl) ⟨rfl, by decide, by decide⟩ ?F (fun _ _ _ _ z => z)
    intro w mg fa h Y G hmg0
    obtain ⟨K, KX, sy, ex⟩ := Y
    have PFK := Nv.pf_of (w := w) KX G sy ex Lwk84.tab (Lwk84.alld sy)
    have hn : Nv.noL K = true := (Bool.and_eq_true_iff.mp ex).1
    have hmg : mg ("law" : PySem.Str) = some (.ref fa) := by
      have e : (HandSHeadRun.topDef (OpenLaw.row PySem.Challenge.rw_faultward_k84_whole_calls_through_gates).prog 21).name = ("law" : PySem.Str) := by kernel_rfl
      rw [← e]
      exact hmg0
    have hfa := (PFK.call_ 6 Lwk84.f6 rfl (by decide)).2
    have hfa : mg ("law" : PySem.Str) = some (.ref (Nv.faN Lwk84.dn K 6)) := hfa
    have e := hmg.symm.trans hfa
    cases e
    obtain ⟨fd, F⟩ := sy.def_ 6 (d := Lwk84.d6) rfl
    have D : Nv.DefOk (Nv.cxtN Lwk84.P K) Lwk84.P K (Nv.faN Lwk84.dn K 6) 6 Lwk84.f6 fd ["script"] := ⟨⟨_, _, _, _, _, _, _, _, F, Lwk84.lawSc, rfl, by kernel_rfl⟩, rfl, F.kp, fun _ => F.bindsN (ps := ["script"]) fun _ _ _ _ _ _ us hl => match us, hl with | [_], _ => rfl, Nv.kw_none (by kernel_rfl)⟩
    have b := L2.FunD.bindsA (ps := ["script"]) F fun _ _ _ _ _ _ us hl => match us, hl with | [_], _ => rfl
    exact ⟨K, fd, Nv.spF (Nv.cxtN Lwk84.P K) Nv.R0 1 ((Nv.sm Lwk84.P 12).call 6), KX, fun s v => b s [v] rfl, fun H a ns hl hO hS => Nv.law_sp hn hO hS (main ns hl), fun base _ _ => (Nv.all_sm (prog := (PySem.Challenge.rw_faultward_k84_whole_calls_through_gates).prog) (base := base) PFK 12).1 6 Lwk84.f6 fd ["script"] rfl D⟩
namespace Lwk84
open PySem PySem.Spec PyProof.Rows L2 Nv
def bud (m p h c r : Int) : O := .ins 0 [(0, .int m), (1, .int p), (2, .int h), (3, .int c), (4, .int r)]
def uD : Option Int → D
  | none => .non
  | some u => .int u
def gt (L R c row : Int) (u : Option Int) (out : Bool) : O := .ins 1 [(5, .int L), (6, .int R), (7, .int c), (8, .int row), (9, uD u), (10, .bl out), (11, .ref 3)]
def stS : Option Int → Int → Str
  | none, _ => "open"
  | some u, c => if c < u then "shut" else "ajar"
theorem c_eqS {S : Store} {a b : Str} : cmpD .eq (.str a) (.str b) S = some (decide (a = b)) := by
  show (if scal (.str a) (.str b) = true then some (decide (V.str a = V.str b)) else none) = _
  have : scal (.str a) (.str b) = true := rfl
  rw [if_pos this]
  congr 1
  by_cases h : a = b <;> simp [h]
theorem c_neS {S : Store} {a b : Str} : cmpD .ne (.str a) (.str b) S = some (!decide (a = b)) := by
  show (cmpD .eq (.str a) (.str b) S).map not = _
  rw [c_eqS]; rfl
theorem c_neB {S : Store} {a b : Bool} : cmpD .ne (.bl a) (.bl b) S = some (!decide (a = b)) := by
  show (if scal (.bl a) (.bl b) = true then some (decide (V.bl a = V.bl b)) else none).map not = _
  have : scal (.bl a) (.bl b) = true := rfl
  rw [if_pos this]
  by_cases h : a = b <;> simp [h]
theorem stS_some {v c : Int} : stS (some v) c = if c < v then ("shut" : Str) else "ajar" := rfl
theorem stS_shut {u : Option Int} {c : Int} : (stS u c = "shut") ↔ ∃ v, u = some v ∧ c < v := by
  cases u with
  | none => exact ⟨fun z => absurd (show ("open" : Str) = "shut" from z) (by decide), fun ⟨v, e, _⟩ => by cases e⟩
  | some v =>
    rw [stS_some]
    by_cases h : c < v
    · rw [if_pos h]; exact ⟨fun _ => ⟨v, rfl, h⟩, fun _ => rfl⟩
    · rw [if_neg h]; exact ⟨fun z => absurd z (by decide), fun ⟨w, e, q⟩ => by cases e; exact absurd q h⟩
theorem stS_ajar {u : Option Int} {c : Int} : (stS u c = "ajar") ↔ ∃ v, u = some v ∧ ¬ c < v := by
  cases u with
  | none => exact ⟨fun z => absurd (show ("open" : Str) = "ajar" from z) (by decide), fun ⟨v, e, _⟩ => by cases e⟩
  | some v =>
    rw [stS_some]
    by_cases h : c < v
    · rw [if_pos h]; exact ⟨fun z => absurd z (by decide), fun ⟨w, e, q⟩ => by cases e; exact absurd h q⟩
    · rw [if_neg h]; exact ⟨fun _ => ⟨v, rfl, h⟩, fun _ => rfl⟩
theorem stS_open {u : Option Int} {c : Int} : (stS u c = "open") ↔ u = none := by
  cases u with
  | none => exact ⟨fun _ => rfl, fun _ => rfl⟩
  | some v =>
    rw [stS_some]
    by_cases h : c < v
    · rw [if_pos h]; exact ⟨fun z => absurd z (by decide), fun e => by cases e⟩
    · rw [if_neg h]; exact ⟨fun z => absurd z (by decide), fun e => by cases e⟩
theorem whole_ok {d : Nat} {S : Store} {x : Int} {Q : D → Store → Prop} (hQ : Q (.bl true) S) : wp ((sm P (d + 1)).call 0 [.int x] S) Q := by
  refine wp_call (fn := f0) rfl rfl (by decide) ?_
  show wp (evalSs P (sm P d) b0 [some (.int x)] S) _
  refine wp_cons (wp_S_ret ?_)
  simp only [we_var, we_non, we_bl, we_int, we_str, we_glb, ws_nil, ws_cons, we_tup, we_lst, we_bin, we_neg, we_cmp, we_chain, we_and1, we_or1, we_and, we_or, we_not, we_ite, we_idx, wo_none, wo_some, we_slc, we_attr, we_call, we_meth, we_make, we_makek, wmake, we_blt, we_bm, we_isi, we_comp, wf_nil, wf_one, wt_tru, wi_of, wi_range, wi_enum, wg_name, wg_tup, wg_nil, wg_cons, optQ_some, optQ_if, optQ_map, optQ_bind, tst_bl, tst_non, tst_int, b_add, b_sub, b_mul, b_fdiv, b_mod, b_pow, c_lt, c_le, c_gt, c_ge, c_eqI, c_neI, c_isI, c_notI, c_isN, c_notN, i_ii, i_ib, n_i, d_i, l_min, l_max, x_ref, x_new, x_tup, s_new, s_tup, y_new, at_0, at_1, at_2, mat_int, mat_bl, mat_str, mat_non, mat_ref, mats_nil, mats_cons, mat_tup, List.getElem?_cons_zero, List.getElem?_cons_succ, List.set_cons_zero, List.set_cons_succ, decide_eq_true_eq, decide_eq_false_iff_not, wp_ok, true_implies, false_implies, reduceCtorEq, and_true, true_and, Bool.not_true, Bool.not_false, putA, List.length_nil, List.length_cons, List.set_set, reduceIte, Nat.reduceEqDiff, Nat.zero_ne_one, Nat.one_ne_zero, ne_eq, not_true_eq_false, not_false_eq_true, List.append_assoc, List.cons_append, List.nil_append, List.lookup_cons, List.lookup_nil, Nat.reduceBEq, beq_self_eq_true, Bool.and_true, Bool.true_and, Bool.false_and, Bool.and_false]
  exact ret_q hQ
theorem within_ok {d : Nat} {S : Store} {x lo hi : Int} {Q : D → Store → Prop} (h1 : lo ≤ x) (h2 : x ≤ hi) (hQ : Q (.bl true) S) : wp ((sm P (d + 2)).call 1 [.int x, .int lo, .int hi] S) Q := by
  refine wp_call (fn := f1) rfl rfl (by decide) ?_
  show wp (evalSs P (sm P (d + 1)) b1 [some (.int x), some (.int lo), some (.int hi)] S) _
  refine wp_cons (wp_S_ret ?_)
  simp only [we_var, we_non, we_bl, we_int, we_str, we_glb, ws_nil, ws_cons, we_tup, we_lst, we_bin, we_neg, we_cmp, we_chain, we_and1, we_or1, we_and, we_or, we_not, we_ite, we_idx, wo_none, wo_some, we_slc, we_attr, we_call, we_meth, we_make, we_makek, wmake, we_blt, we_bm, we_isi, we_comp, wf_nil, wf_one, wt_tru, wi_of, wi_range, wi_enum, wg_name, wg_tup, wg_nil, wg_cons, optQ_some, optQ_if, optQ_map, optQ_bind, tst_bl, tst_non, tst_int, b_add, b_sub, b_mul, b_fdiv, b_mod, b_pow, c_lt, c_le, c_gt, c_ge, c_eqI, c_neI, c_isI, c_notI, c_isN, c_notN, i_ii, i_ib, n_i, d_i, l_min, l_max, x_ref, x_new, x_tup, s_new, s_tup, y_new, at_0, at_1, at_2, mat_int, mat_bl, mat_str, mat_non, mat_ref, mats_nil, mats_cons, mat_tup, List.getElem?_cons_zero, List.getElem?_cons_succ, List.set_cons_zero, List.set_cons_succ, decide_eq_true_eq, decide_eq_false_iff_not, wp_ok, true_implies, false_implies, reduceCtorEq, and_true, true_and, Bool.not_true, Bool.not_false, putA, List.length_nil, List.length_cons, List.set_set, reduceIte, Nat.reduceEqDiff, Nat.zero_ne_one, Nat.one_ne_zero, ne_eq, not_true_eq_false, not_false_eq_true, List.append_assoc, List.cons_append, List.nil_append, List.lookup_cons, List.lookup_nil, Nat.reduceBEq, beq_self_eq_true, Bool.and_true, Bool.true_and, Bool.false_and, Bool.and_false]
  refine whole_ok ?_
  simp only [we_var, we_non, we_bl, we_int, we_str, we_glb, ws_nil, ws_cons, we_tup, we_lst, we_bin, we_neg, we_cmp, we_chain, we_and1, we_or1, we_and, we_or, we_not, we_ite, we_idx, wo_none, wo_some, we_slc, we_attr, we_call, we_meth, we_make, we_makek, wmake, we_blt, we_bm, we_isi, we_comp, wf_nil, wf_one, wt_tru, wi_of, wi_range, wi_enum, wg_name, wg_tup, wg_nil, wg_cons, optQ_some, optQ_if, optQ_map, optQ_bind, tst_bl, tst_non, tst_int, b_add, b_sub, b_mul, b_fdiv, b_mod, b_pow, c_lt, c_le, c_gt, c_ge, c_eqI, c_neI, c_isI, c_notI, c_isN, c_notN, i_ii, i_ib, n_i, d_i, l_min, l_max, x_ref, x_new, x_tup, s_new, s_tup, y_new, at_0, at_1, at_2, mat_int, mat_bl, mat_str, mat_non, mat_ref, mats_nil, mats_cons, mat_tup, List.getElem?_cons_zero, List.getElem?_cons_succ, List.set_cons_zero, List.set_cons_succ, decide_eq_true_eq, decide_eq_false_iff_not, wp_ok, true_implies, false_implies, reduceCtorEq, and_true, true_and, Bool.not_true, Bool.not_false, putA, List.length_nil, List.length_cons, List.set_set, reduceIte, Nat.reduceEqDiff, Nat.zero_ne_one, Nat.one_ne_zero, ne_eq, not_true_eq_false, not_false_eq_true, List.append_assoc, List.cons_append, List.nil_append, List.lookup_cons, List.lookup_nil, Nat.reduceBEq, beq_self_eq_true, Bool.and_true, Bool.true_and, Bool.false_and, Bool.and_false]
  refine ⟨fun _ => ?_, fun z => absurd h1 z⟩
  rw [show decide (x ≤ hi) = true from decide_eq_true h2]
  exact ret_q hQ
section
variable {d : Nat} {F o1 g b : O} {rs : List D} {Q : D → Store → Prop} {m p h c r L R row : Int} {u : Option Int} {out : Bool}
theorem bcall_ok (hQ : Q .non [F, o1, g, .lst rs, bud m p (if h + 1 < m then h + 1 else m) (c + 1) r]) : wp ((sm P (d + 1)).call 8 [.ref 4] [F, o1, g, .lst rs, bud m p h c r]) Q := by
  refine wp_call (fn := f8) rfl rfl (by decide) ?_
  show wp (evalSs P (sm P d) b8 [some (.ref 4)] _) _
  have hb : ∀ x, ([F, o1, g, .lst rs, x] : Store)[4]? = some x := fun _ => rfl
  refine wp_cons (wp_S_attr ?_)
  simp only [we_var, we_non, we_bl, we_int, we_str, we_glb, ws_nil, ws_cons, we_tup, we_lst, we_bin, we_neg, we_cmp, we_chain, we_and1, we_or1, we_and, we_or, we_not, we_ite, we_idx, wo_none, wo_some, we_slc, we_attr, we_call, we_meth, we_make, we_makek, wmake, we_blt, we_bm, we_isi, we_comp, wf_nil, wf_one, wt_tru, wi_of, wi_range, wi_enum, wg_name, wg_tup, wg_nil, wg_cons, optQ_some, optQ_if, optQ_map, optQ_bind, tst_bl, tst_non, tst_int, b_add, b_sub, b_mul, b_fdiv, b_mod, b_pow, c_lt, c_le, c_gt, c_ge, c_eqI, c_neI, c_isI, c_notI, c_isN, c_notN, i_ii, i_ib, n_i, d_i, l_min, l_max, x_ref, x_new, x_tup, s_new, s_tup, y_new, at_0, at_1, at_2, mat_int, mat_bl, mat_str, mat_non, mat_ref, mats_nil, mats_cons, mat_tup, List.getElem?_cons_zero, List.getElem?_cons_succ, List.set_cons_zero, List.set_cons_succ, decide_eq_true_eq, decide_eq_false_iff_not, wp_ok, bud, a_ins (hb _), u_attr (hb _), true_implies, false_implies, reduceCtorEq, and_true, true_and, Bool.not_true, Bool.not_false, putA, List.length_nil, List.length_cons, List.set_set, reduceIte, Nat.reduceEqDiff, Nat.zero_ne_one, Nat.one_ne_zero, ne_eq, not_true_eq_false, not_false_eq_true, List.append_assoc, List.cons_append, List.nil_append, List.lookup_cons, List.lookup_nil, Nat.reduceBEq, beq_self_eq_true, Bool.and_true, Bool.true_and, Bool.false_and, Bool.and_false]
  refine ⟨by decide, ?_⟩
  refine wp_cons (wp_S_attr ?_)
  simp only [we_var, we_non, we_bl, we_int, we_str, we_glb, ws_nil, ws_cons, we_tup, we_lst, we_bin, we_neg, we_cmp, we_chain, we_and1, we_or1, we_and, we_or, we_not, we_ite, we_idx, wo_none, wo_some, we_slc, we_attr, we_call, we_meth, we_make, we_makek, wmake, we_blt, we_bm, we_isi, we_comp, wf_nil, wf_one, wt_tru, wi_of, wi_range, wi_enum, wg_name, wg_tup, wg_nil, wg_cons, optQ_some, optQ_if, optQ_map, optQ_bind, tst_bl, tst_non, tst_int, b_add, b_sub, b_mul, b_fdiv, b_mod, b_pow, c_lt, c_le, c_gt, c_ge, c_eqI, c_neI, c_isI, c_notI, c_isN, c_notN, i_ii, i_ib, n_i, d_i, l_min, l_max, x_ref, x_new, x_tup, s_new, s_tup, y_new, at_0, at_1, at_2, mat_int, mat_bl, mat_str, mat_non, mat_ref, mats_nil, mats_cons, mat_tup, List.getElem?_cons_zero, List.getElem?_cons_succ, List.set_cons_zero, List.set_cons_succ, decide_eq_true_eq, decide_eq_false_iff_not, wp_ok, a_ins (hb _), u_attr (hb _), true_implies, false_implies, reduceCtorEq, and_true, true_and, Bool.not_true, Bool.not_false, putA, List.length_nil, List.length_cons, List.set_set, reduceIte, Nat.reduceEqDiff, Nat.zero_ne_one, Nat.one_ne_zero, ne_eq, not_true_eq_false, not_false_eq_true, List.append_assoc, List.cons_append, List.nil_append, List.lookup_cons, List.lookup_nil, Nat.reduceBEq, beq_self_eq_true, Bool.and_true, Bool.true_and, Bool.false_and, Bool.and_false]
  exact ⟨by decide, wp_nil (ret_n hQ)⟩
theorem may_ok (hQ : Q (.bl (decide (p ≤ h))) [F, o1, g, .lst rs, bud m p h c r]) : wp ((sm P (d + 1)).call 9 [.ref 4] [F, o1, g, .lst rs, bud m p h c r]) Q := by
  refine wp_call (fn := f9) rfl rfl (by decide) ?_
  show wp (evalSs P (sm P d) b9 [some (.ref 4)] _) _
  have hb : ∀ x, ([F, o1, g, .lst rs, x] : Store)[4]? = some x := fun _ => rfl
  refine wp_cons (wp_S_ret ?_)
  simp only [we_var, we_non, we_bl, we_int, we_str, we_glb, ws_nil, ws_cons, we_tup, we_lst, we_bin, we_neg, we_cmp, we_chain, we_and1, we_or1, we_and, we_or, we_not, we_ite, we_idx, wo_none, wo_some, we_slc, we_attr, we_call, we_meth, we_make, we_makek, wmake, we_blt, we_bm, we_isi, we_comp, wf_nil, wf_one, wt_tru, wi_of, wi_range, wi_enum, wg_name, wg_tup, wg_nil, wg_cons, optQ_some, optQ_if, optQ_map, optQ_bind, tst_bl, tst_non, tst_int, b_add, b_sub, b_mul, b_fdiv, b_mod, b_pow, c_lt, c_le, c_gt, c_ge, c_eqI, c_neI, c_isI, c_notI, c_isN, c_notN, i_ii, i_ib, n_i, d_i, l_min, l_max, x_ref, x_new, x_tup, s_new, s_tup, y_new, at_0, at_1, at_2, mat_int, mat_bl, mat_str, mat_non, mat_ref, mats_nil, mats_cons, mat_tup, List.getElem?_cons_zero, List.getElem?_cons_succ, List.set_cons_zero, List.set_cons_succ, decide_eq_true_eq, decide_eq_false_iff_not, wp_ok, bud, a_ins (hb _), true_implies, false_implies, reduceCtorEq, and_true, true_and, Bool.not_true, Bool.not_false, putA, List.length_nil, List.length_cons, List.set_set, reduceIte, Nat.reduceEqDiff, Nat.zero_ne_one, Nat.one_ne_zero, ne_eq, not_true_eq_false, not_false_eq_true, List.append_assoc, List.cons_append, List.nil_append, List.lookup_cons, List.lookup_nil, Nat.reduceBEq, beq_self_eq_true, Bool.and_true, Bool.true_and, Bool.false_and, Bool.and_false]
  exact ret_q hQ
theorem rcB {f : Nat} (hf : [(0, D.int m), (1, D.int p), (2, D.int h), (3, D.int c), (4, D.int r)].lookup f = none) : recvD 0 f (.ref 4) [F, o1, g, .lst rs, bud m p h c r] = some 4 := r_ins (S := [_, _, _, _, bud _ _ _ _ _]) rfl hf
theorem again_ok (hp : p ≤ h) (hQ : Q .non [F, o1, g, .lst rs, bud m p (h - p) c (r + 1)]) : wp ((sm P (d + 2)).call 10 [.ref 4] [F, o1, g, .lst rs, bud m p h c r]) Q := by
  refine wp_call (fn := f10) rfl rfl (by decide) ?_
  show wp (evalSs P (sm P (d + 1)) b10 [some (.ref 4)] _) _
  have hb : ∀ x, ([F, o1, g, .lst rs, x] : Store)[4]? = some x := fun _ => rfl
  refine wp_cons (wp_S_ite ?_)
  simp only [we_var, we_non, we_bl, we_int, we_str, we_glb, ws_nil, ws_cons, we_tup, we_lst, we_bin, we_neg, we_cmp, we_chain, we_and1, we_or1, we_and, we_or, we_not, we_ite, we_idx, wo_none, wo_some, we_slc, we_attr, we_call, we_meth, we_make, we_makek, wmake, we_blt, we_bm, we_isi, we_comp, wf_nil, wf_one, wt_tru, wi_of, wi_range, wi_enum, wg_name, wg_tup, wg_nil, wg_cons, optQ_some, optQ_if, optQ_map, optQ_bind, tst_bl, tst_non, tst_int, b_add, b_sub, b_mul, b_fdiv, b_mod, b_pow, c_lt, c_le, c_gt, c_ge, c_eqI, c_neI, c_isI, c_notI, c_isN, c_notN, i_ii, i_ib, n_i, d_i, l_min, l_max, x_ref, x_new, x_tup, s_new, s_tup, y_new, at_0, at_1, at_2, mat_int, mat_bl, mat_str, mat_non, mat_ref, mats_nil, mats_cons, mat_tup, List.getElem?_cons_zero, List.getElem?_cons_succ, List.set_cons_zero, List.set_cons_succ, decide_eq_true_eq, decide_eq_false_iff_not, wp_ok, rcB (f := 13) rfl, true_implies, false_implies, reduceCtorEq, and_true, true_and, Bool.not_true, Bool.not_false, putA, List.length_nil, List.length_cons, List.set_set, reduceIte, Nat.reduceEqDiff, Nat.zero_ne_one, Nat.one_ne_zero, ne_eq, not_true_eq_false, not_false_eq_true, List.append_assoc, List.cons_append, List.nil_append, List.lookup_cons, List.lookup_nil, Nat.reduceBEq, beq_self_eq_true, Bool.and_true, Bool.true_and, Bool.false_and, Bool.and_false]
  refine may_ok ?_
  simp only [we_var, we_non, we_bl, we_int, we_str, we_glb, ws_nil, ws_cons, we_tup, we_lst, we_bin, we_neg, we_cmp, we_chain, we_and1, we_or1, we_and, we_or, we_not, we_ite, we_idx, wo_none, wo_some, we_slc, we_attr, we_call, we_meth, we_make, we_makek, wmake, we_blt, we_bm, we_isi, we_comp, wf_nil, wf_one, wt_tru, wi_of, wi_range, wi_enum, wg_name, wg_tup, wg_nil, wg_cons, optQ_some, optQ_if, optQ_map, optQ_bind, tst_bl, tst_non, tst_int, b_add, b_sub, b_mul, b_fdiv, b_mod, b_pow, c_lt, c_le, c_gt, c_ge, c_eqI, c_neI, c_isI, c_notI, c_isN, c_notN, i_ii, i_ib, n_i, d_i, l_min, l_max, x_ref, x_new, x_tup, s_new, s_tup, y_new, at_0, at_1, at_2, mat_int, mat_bl, mat_str, mat_non, mat_ref, mats_nil, mats_cons, mat_tup, List.getElem?_cons_zero, List.getElem?_cons_succ, List.set_cons_zero, List.set_cons_succ, decide_eq_true_eq, decide_eq_false_iff_not, wp_ok, true_implies, false_implies, reduceCtorEq, and_true, true_and, Bool.not_true, Bool.not_false, putA, List.length_nil, List.length_cons, List.set_set, reduceIte, Nat.reduceEqDiff, Nat.zero_ne_one, Nat.one_ne_zero, ne_eq, not_true_eq_false, not_false_eq_true, List.append_assoc, List.cons_append, List.nil_append, List.lookup_cons, List.lookup_nil, Nat.reduceBEq, beq_self_eq_true, Bool.and_true, Bool.true_and, Bool.false_and, Bool.and_false, decide_eq_true hp]
  refine wp_nil (wp_cons (wp_S_attr ?_))
  simp only [we_var, we_non, we_bl, we_int, we_str, we_glb, ws_nil, ws_cons, we_tup, we_lst, we_bin, we_neg, we_cmp, we_chain, we_and1, we_or1, we_and, we_or, we_not, we_ite, we_idx, wo_none, wo_some, we_slc, we_attr, we_call, we_meth, we_make, we_makek, wmake, we_blt, we_bm, we_isi, we_comp, wf_nil, wf_one, wt_tru, wi_of, wi_range, wi_enum, wg_name, wg_tup, wg_nil, wg_cons, optQ_some, optQ_if, optQ_map, optQ_bind, tst_bl, tst_non, tst_int, b_add, b_sub, b_mul, b_fdiv, b_mod, b_pow, c_lt, c_le, c_gt, c_ge, c_eqI, c_neI, c_isI, c_notI, c_isN, c_notN, i_ii, i_ib, n_i, d_i, l_min, l_max, x_ref, x_new, x_tup, s_new, s_tup, y_new, at_0, at_1, at_2, mat_int, mat_bl, mat_str, mat_non, mat_ref, mats_nil, mats_cons, mat_tup, List.getElem?_cons_zero, List.getElem?_cons_succ, List.set_cons_zero, List.set_cons_succ, decide_eq_true_eq, decide_eq_false_iff_not, wp_ok, bud, a_ins (hb _), u_attr (hb _), true_implies, false_implies, reduceCtorEq, and_true, true_and, Bool.not_true, Bool.not_false, putA, List.length_nil, List.length_cons, List.set_set, reduceIte, Nat.reduceEqDiff, Nat.zero_ne_one, Nat.one_ne_zero, ne_eq, not_true_eq_false, not_false_eq_true, List.append_assoc, List.cons_append, List.nil_append, List.lookup_cons, List.lookup_nil, Nat.reduceBEq, beq_self_eq_true, Bool.and_true, Bool.true_and, Bool.false_and, Bool.and_false]
  refine ⟨by decide, ?_⟩
  refine wp_cons (wp_S_attr ?_)
  simp only [we_var, we_non, we_bl, we_int, we_str, we_glb, ws_nil, ws_cons, we_tup, we_lst, we_bin, we_neg, we_cmp, we_chain, we_and1, we_or1, we_and, we_or, we_not, we_ite, we_idx, wo_none, wo_some, we_slc, we_attr, we_call, we_meth, we_make, we_makek, wmake, we_blt, we_bm, we_isi, we_comp, wf_nil, wf_one, wt_tru, wi_of, wi_range, wi_enum, wg_name, wg_tup, wg_nil, wg_cons, optQ_some, optQ_if, optQ_map, optQ_bind, tst_bl, tst_non, tst_int, b_add, b_sub, b_mul, b_fdiv, b_mod, b_pow, c_lt, c_le, c_gt, c_ge, c_eqI, c_neI, c_isI, c_notI, c_isN, c_notN, i_ii, i_ib, n_i, d_i, l_min, l_max, x_ref, x_new, x_tup, s_new, s_tup, y_new, at_0, at_1, at_2, mat_int, mat_bl, mat_str, mat_non, mat_ref, mats_nil, mats_cons, mat_tup, List.getElem?_cons_zero, List.getElem?_cons_succ, List.set_cons_zero, List.set_cons_succ, decide_eq_true_eq, decide_eq_false_iff_not, wp_ok, a_ins (hb _), u_attr (hb _), true_implies, false_implies, reduceCtorEq, and_true, true_and, Bool.not_true, Bool.not_false, putA, List.length_nil, List.length_cons, List.set_set, reduceIte, Nat.reduceEqDiff, Nat.zero_ne_one, Nat.one_ne_zero, ne_eq, not_true_eq_false, not_false_eq_true, List.append_assoc, List.cons_append, List.nil_append, List.lookup_cons, List.lookup_nil, Nat.reduceBEq, beq_self_eq_true, Bool.and_true, Bool.true_and, Bool.false_and, Bool.and_false]
  exact ⟨by decide, wp_nil (ret_n hQ)⟩
theorem counts_ok {N : Store} (hQ : Q (.tup [.int h, .int c, .int r]) (F :: o1 :: g :: .lst rs :: bud m p h c r :: N)) : wp ((sm P (d + 1)).call 11 [.ref 4] (F :: o1 :: g :: .lst rs :: bud m p h c r :: N)) Q := by
  refine wp_call (fn := f11) rfl rfl (by decide) ?_
  show wp (evalSs P (sm P d) b11 [some (.ref 4)] _) _
  have hb : ∀ x, (F :: o1 :: g :: .lst rs :: x :: N : Store)[4]? = some x := fun _ => rfl
  refine wp_cons (wp_S_ret ?_)
  simp only [we_var, we_non, we_bl, we_int, we_str, we_glb, ws_nil, ws_cons, we_tup, we_lst, we_bin, we_neg, we_cmp, we_chain, we_and1, we_or1, we_and, we_or, we_not, we_ite, we_idx, wo_none, wo_some, we_slc, we_attr, we_call, we_meth, we_make, we_makek, wmake, we_blt, we_bm, we_isi, we_comp, wf_nil, wf_one, wt_tru, wi_of, wi_range, wi_enum, wg_name, wg_tup, wg_nil, wg_cons, optQ_some, optQ_if, optQ_map, optQ_bind, tst_bl, tst_non, tst_int, b_add, b_sub, b_mul, b_fdiv, b_mod, b_pow, c_lt, c_le, c_gt, c_ge, c_eqI, c_neI, c_isI, c_notI, c_isN, c_notN, i_ii, i_ib, n_i, d_i, l_min, l_max, x_ref, x_new, x_tup, s_new, s_tup, y_new, at_0, at_1, at_2, mat_int, mat_bl, mat_str, mat_non, mat_ref, mats_nil, mats_cons, mat_tup, List.getElem?_cons_zero, List.getElem?_cons_succ, List.set_cons_zero, List.set_cons_succ, decide_eq_true_eq, decide_eq_false_iff_not, wp_ok, bud, a_ins (hb _), true_implies, false_implies, reduceCtorEq, and_true, true_and, Bool.not_true, Bool.not_false, putA, List.length_nil, List.length_cons, List.set_set, reduceIte, Nat.reduceEqDiff, Nat.zero_ne_one, Nat.one_ne_zero, ne_eq, not_true_eq_false, not_false_eq_true, List.append_assoc, List.cons_append, List.nil_append, List.lookup_cons, List.lookup_nil, Nat.reduceBEq, beq_self_eq_true, Bool.and_true, Bool.true_and, Bool.false_and, Bool.and_false]
  exact ⟨by decide, ret_q hQ⟩
/-! ### the gate -/
theorem rcG {f : Nat} (hf : [(5, D.int L), (6, D.int R), (7, D.int c), (8, D.int row), (9, uD u), (10, D.bl out), (11, D.ref 3)].lookup f = none) : recvD 1 f (.ref 2) [F, o1, gt L R c row u out, .lst rs, b] = some 2 := r_ins (S := [_, _, gt _ _ _ _ _ _, _, _]) rfl hf
theorem goto_ok {t : Int} (h1 : c ≤ t) (h2 : t ≤ 1000000000) (hQ : Q .non [F, o1, gt L R t row u out, .lst rs, b]) : wp ((sm P (d + 3)).call 13 [.ref 2, .int t] [F, o1, gt L R c row u out, .lst rs, b]) Q := by
  refine wp_call (fn := f13) rfl rfl (by decide) ?_
  show wp (evalSs P (sm P (d + 2)) b13 [some (.ref 2), some (.int t)] _) _
  have hb : ∀ x, ([F, o1, x, .lst rs, b] : Store)[2]? = some x := fun _ => rfl
  have hg : P.globs[1]? = some (("MOST_TIME" : Str), D.int 1000000000) := rfl
  refine wp_cons (wp_S_ite ?_)
  simp only [we_var, we_non, we_bl, we_int, we_str, we_glb, ws_nil, ws_cons, we_tup, we_lst, we_bin, we_neg, we_cmp, we_chain, we_and1, we_or1, we_and, we_or, we_not, we_ite, we_idx, wo_none, wo_some, we_slc, we_attr, we_call, we_meth, we_make, we_makek, wmake, we_blt, we_bm, we_isi, we_comp, wf_nil, wf_one, wt_tru, wi_of, wi_range, wi_enum, wg_name, wg_tup, wg_nil, wg_cons, optQ_some, optQ_if, optQ_map, optQ_bind, tst_bl, tst_non, tst_int, b_add, b_sub, b_mul, b_fdiv, b_mod, b_pow, c_lt, c_le, c_gt, c_ge, c_eqI, c_neI, c_isI, c_notI, c_isN, c_notN, i_ii, i_ib, n_i, d_i, l_min, l_max, x_ref, x_new, x_tup, s_new, s_tup, y_new, at_0, at_1, at_2, mat_int, mat_bl, mat_str, mat_non, mat_ref, mats_nil, mats_cons, mat_tup, List.getElem?_cons_zero, List.getElem?_cons_succ, List.set_cons_zero, List.set_cons_succ, decide_eq_true_eq, decide_eq_false_iff_not, wp_ok, gt, a_ins (hb _), hg, true_implies, false_implies, reduceCtorEq, and_true, true_and, Bool.not_true, Bool.not_false, putA, List.length_nil, List.length_cons, List.set_set, reduceIte, Nat.reduceEqDiff, Nat.zero_ne_one, Nat.one_ne_zero, ne_eq, not_true_eq_false, not_false_eq_true, List.append_assoc, List.cons_append, List.nil_append, List.lookup_cons, List.lookup_nil, Nat.reduceBEq, beq_self_eq_true, Bool.and_true, Bool.true_and, Bool.false_and, Bool.and_false]
  refine within_ok h1 h2 ?_
  simp only [we_var, we_non, we_bl, we_int, we_str, we_glb, ws_nil, ws_cons, we_tup, we_lst, we_bin, we_neg, we_cmp, we_chain, we_and1, we_or1, we_and, we_or, we_not, we_ite, we_idx, wo_none, wo_some, we_slc, we_attr, we_call, we_meth, we_make, we_makek, wmake, we_blt, we_bm, we_isi, we_comp, wf_nil, wf_one, wt_tru, wi_of, wi_range, wi_enum, wg_name, wg_tup, wg_nil, wg_cons, optQ_some, optQ_if, optQ_map, optQ_bind, tst_bl, tst_non, tst_int, b_add, b_sub, b_mul, b_fdiv, b_mod, b_pow, c_lt, c_le, c_gt, c_ge, c_eqI, c_neI, c_isI, c_notI, c_isN, c_notN, i_ii, i_ib, n_i, d_i, l_min, l_max, x_ref, x_new, x_tup, s_new, s_tup, y_new, at_0, at_1, at_2, mat_int, mat_bl, mat_str, mat_non, mat_ref, mats_nil, mats_cons, mat_tup, List.getElem?_cons_zero, List.getElem?_cons_succ, List.set_cons_zero, List.set_cons_succ, decide_eq_true_eq, decide_eq_false_iff_not, wp_ok, true_implies, false_implies, reduceCtorEq, and_true, true_and, Bool.not_true, Bool.not_false, putA, List.length_nil, List.length_cons, List.set_set, reduceIte, Nat.reduceEqDiff, Nat.zero_ne_one, Nat.one_ne_zero, ne_eq, not_true_eq_false, not_false_eq_true, List.append_assoc, List.cons_append, List.nil_append, List.lookup_cons, List.lookup_nil, Nat.reduceBEq, beq_self_eq_true, Bool.and_true, Bool.true_and, Bool.false_and, Bool.and_false]
  refine wp_nil (wp_cons (wp_S_attr ?_))
  simp only [we_var, we_non, we_bl, we_int, we_str, we_glb, ws_nil, ws_cons, we_tup, we_lst, we_bin, we_neg, we_cmp, we_chain, we_and1, we_or1, we_and, we_or, we_not, we_ite, we_idx, wo_none, wo_some, we_slc, we_attr, we_call, we_meth, we_make, we_makek, wmake, we_blt, we_bm, we_isi, we_comp, wf_nil, wf_one, wt_tru, wi_of, wi_range, wi_enum, wg_name, wg_tup, wg_nil, wg_cons, optQ_some, optQ_if, optQ_map, optQ_bind, tst_bl, tst_non, tst_int, b_add, b_sub, b_mul, b_fdiv, b_mod, b_pow, c_lt, c_le, c_gt, c_ge, c_eqI, c_neI, c_isI, c_notI, c_isN, c_notN, i_ii, i_ib, n_i, d_i, l_min, l_max, x_ref, x_new, x_tup, s_new, s_tup, y_new, at_0, at_1, at_2, mat_int, mat_bl, mat_str, mat_non, mat_ref, mats_nil, mats_cons, mat_tup, List.getElem?_cons_zero, List.getElem?_cons_succ, List.set_cons_zero, List.set_cons_succ, decide_eq_true_eq, decide_eq_false_iff_not, wp_ok, u_attr (hb _), true_implies, false_implies, reduceCtorEq, and_true, true_and, Bool.not_true, Bool.not_false, putA, List.length_nil, List.length_cons, List.set_set, reduceIte, Nat.reduceEqDiff, Nat.zero_ne_one, Nat.one_ne_zero, ne_eq, not_true_eq_false, not_false_eq_true, List.append_assoc, List.cons_append, List.nil_append, List.lookup_cons, List.lookup_nil, Nat.reduceBEq, beq_self_eq_true, Bool.and_true, Bool.true_and, Bool.false_and, Bool.and_false]
  exact ⟨by decide, wp_nil (ret_n hQ)⟩
theorem state_ok (hQ : Q (.str (stS u c)) [F, o1, gt L R c row u out, .lst rs, b]) : wp ((sm P (d + 1)).call 14 [.ref 2] [F, o1, gt L R c row u out, .lst rs, b]) Q := by
  refine wp_call (fn := f14) rfl rfl (by decide) ?_
  show wp (evalSs P (sm P d) b14 [some (.ref 2)] _) _
  have hb : ∀ x, ([F, o1, x, .lst rs, b] : Store)[2]? = some x := fun _ => rfl
  refine wp_cons (wp_S_ite ?_)
  cases u with
  | none =>
    simp only [we_var, we_non, we_bl, we_int, we_str, we_glb, ws_nil, ws_cons, we_tup, we_lst, we_bin, we_neg, we_cmp, we_chain, we_and1, we_or1, we_and, we_or, we_not, we_ite, we_idx, wo_none, wo_some, we_slc, we_attr, we_call, we_meth, we_make, we_makek, wmake, we_blt, we_bm, we_isi, we_comp, wf_nil, wf_one, wt_tru, wi_of, wi_range, wi_enum, wg_name, wg_tup, wg_nil, wg_cons, optQ_some, optQ_if, optQ_map, optQ_bind, tst_bl, tst_non, tst_int, b_add, b_sub, b_mul, b_fdiv, b_mod, b_pow, c_lt, c_le, c_gt, c_ge, c_eqI, c_neI, c_isI, c_notI, c_isN, c_notN, i_ii, i_ib, n_i, d_i, l_min, l_max, x_ref, x_new, x_tup, s_new, s_tup, y_new, at_0, at_1, at_2, mat_int, mat_bl, mat_str, mat_non, mat_ref, mats_nil, mats_cons, mat_tup, List.getElem?_cons_zero, List.getElem?_cons_succ, List.set_cons_zero, List.set_cons_succ, decide_eq_true_eq, decide_eq_false_iff_not, wp_ok, gt, uD, a_ins (hb _), true_implies, false_implies, reduceCtorEq, and_true, true_and, Bool.not_true, Bool.not_false, putA, List.length_nil, List.length_cons, List.set_set, reduceIte, Nat.reduceEqDiff, Nat.zero_ne_one, Nat.one_ne_zero, ne_eq, not_true_eq_false, not_false_eq_true, List.append_assoc, List.cons_append, List.nil_append, List.lookup_cons, List.lookup_nil, Nat.reduceBEq, beq_self_eq_true, Bool.and_true, Bool.true_and, Bool.false_and, Bool.and_false]
    refine wp_cons (wp_S_ret ?_)
    simp only [we_var, we_non, we_bl, we_int, we_str, we_glb, ws_nil, ws_cons, we_tup, we_lst, we_bin, we_neg, we_cmp, we_chain, we_and1, we_or1, we_and, we_or, we_not, we_ite, we_idx, wo_none, wo_some, we_slc, we_attr, we_call, we_meth, we_make, we_makek, wmake, we_blt, we_bm, we_isi, we_comp, wf_nil, wf_one, wt_tru, wi_of, wi_range, wi_enum, wg_name, wg_tup, wg_nil, wg_cons, optQ_some, optQ_if, optQ_map, optQ_bind, tst_bl, tst_non, tst_int, b_add, b_sub, b_mul, b_fdiv, b_mod, b_pow, c_lt, c_le, c_gt, c_ge, c_eqI, c_neI, c_isI, c_notI, c_isN, c_notN, i_ii, i_ib, n_i, d_i, l_min, l_max, x_ref, x_new, x_tup, s_new, s_tup, y_new, at_0, at_1, at_2, mat_int, mat_bl, mat_str, mat_non, mat_ref, mats_nil, mats_cons, mat_tup, List.getElem?_cons_zero, List.getElem?_cons_succ, List.set_cons_zero, List.set_cons_succ, decide_eq_true_eq, decide_eq_false_iff_not, wp_ok, true_implies, false_implies, reduceCtorEq, and_true, true_and, Bool.not_true, Bool.not_false, putA, List.length_nil, List.length_cons, List.set_set, reduceIte, Nat.reduceEqDiff, Nat.zero_ne_one, Nat.one_ne_zero, ne_eq, not_true_eq_false, not_false_eq_true, List.append_assoc, List.cons_append, List.nil_append, List.lookup_cons, List.lookup_nil, Nat.reduceBEq, beq_self_eq_true, Bool.and_true, Bool.true_and, Bool.false_and, Bool.and_false]
    exact ret_q hQ
  | some v =>
    simp only [we_var, we_non, we_bl, we_int, we_str, we_glb, ws_nil, ws_cons, we_tup, we_lst, we_bin, we_neg, we_cmp, we_chain, we_and1, we_or1, we_and, we_or, we_not, we_ite, we_idx, wo_none, wo_some, we_slc, we_attr, we_call, we_meth, we_make, we_makek, wmake, we_blt, we_bm, we_isi, we_comp, wf_nil, wf_one, wt_tru, wi_of, wi_range, wi_enum, wg_name, wg_tup, wg_nil, wg_cons, optQ_some, optQ_if, optQ_map, optQ_bind, tst_bl, tst_non, tst_int, b_add, b_sub, b_mul, b_fdiv, b_mod, b_pow, c_lt, c_le, c_gt, c_ge, c_eqI, c_neI, c_isI, c_notI, c_isN, c_notN, i_ii, i_ib, n_i, d_i, l_min, l_max, x_ref, x_new, x_tup, s_new, s_tup, y_new, at_0, at_1, at_2, mat_int, mat_bl, mat_str, mat_non, mat_ref, mats_nil, mats_cons, mat_tup, List.getElem?_cons_zero, List.getElem?_cons_succ, List.set_cons_zero, List.set_cons_succ, decide_eq_true_eq, decide_eq_false_iff_not, wp_ok, gt, uD, a_ins (hb _), true_implies, false_implies, reduceCtorEq, and_true, true_and, Bool.not_true, Bool.not_false, putA, List.length_nil, List.length_cons, List.set_set, reduceIte, Nat.reduceEqDiff, Nat.zero_ne_one, Nat.one_ne_zero, ne_eq, not_true_eq_false, not_false_eq_true, List.append_assoc, List.cons_append, List.nil_append, List.lookup_cons, List.lookup_nil, Nat.reduceBEq, beq_self_eq_true, Bool.and_true, Bool.true_and, Bool.false_and, Bool.and_false]
    refine wp_nil (wp_cons (wp_S_ret ?_))
    simp only [we_var, we_non, we_bl, we_int, we_str, we_glb, ws_nil, ws_cons, we_tup, we_lst, we_bin, we_neg, we_cmp, we_chain, we_and1, we_or1, we_and, we_or, we_not, we_ite, we_idx, wo_none, wo_some, we_slc, we_attr, we_call, we_meth, we_make, we_makek, wmake, we_blt, we_bm, we_isi, we_comp, wf_nil, wf_one, wt_tru, wi_of, wi_range, wi_enum, wg_name, wg_tup, wg_nil, wg_cons, optQ_some, optQ_if, optQ_map, optQ_bind, tst_bl, tst_non, tst_int, b_add, b_sub, b_mul, b_fdiv, b_mod, b_pow, c_lt, c_le, c_gt, c_ge, c_eqI, c_neI, c_isI, c_notI, c_isN, c_notN, i_ii, i_ib, n_i, d_i, l_min, l_max, x_ref, x_new, x_tup, s_new, s_tup, y_new, at_0, at_1, at_2, mat_int, mat_bl, mat_str, mat_non, mat_ref, mats_nil, mats_cons, mat_tup, List.getElem?_cons_zero, List.getElem?_cons_succ, List.set_cons_zero, List.set_cons_succ, decide_eq_true_eq, decide_eq_false_iff_not, wp_ok, a_ins (hb _), true_implies, false_implies, reduceCtorEq, and_true, true_and, Bool.not_true, Bool.not_false, putA, List.length_nil, List.length_cons, List.set_set, reduceIte, Nat.reduceEqDiff, Nat.zero_ne_one, Nat.one_ne_zero, ne_eq, not_true_eq_false, not_false_eq_true, List.append_assoc, List.cons_append, List.nil_append, List.lookup_cons, List.lookup_nil, Nat.reduceBEq, beq_self_eq_true, Bool.and_true, Bool.true_and, Bool.false_and, Bool.and_false]
    refine ⟨fun z => ?_, fun z => ?_⟩
    · have e : stS (some v) c = "shut" := by rw [stS_some, if_pos z]
      rw [e] at hQ
      exact ret_q hQ
    · have e : stS (some v) c = "ajar" := by rw [stS_some, if_neg z]
      rw [e] at hQ
      exact ret_q hQ
theorem app_ok {y : D} {S : Store} {xs : List D} {Q : D → Store → Prop} (h : S[3]? = some (.lst xs)) (hl : xs.length < sizeLine) (hm : mat y S = (y, S)) (hQ : Q .non (S.set 3 (.lst (xs ++ [y])))) : wp (bmD .append (.ref 3) [y] S) Q := by
  have e : bmD .append (.ref 3) [y] S = .ok .non (S.set 3 (.lst (xs ++ [y]))) := by
    simp only [bmD, h, hm]
    rw [if_pos hl]
  rw [e]
  exact hQ
theorem ask_ok (hn : ¬ stS u c = "shut") (hl : rs.length < sizeLine) (hQ : Q .non [F, o1, gt L R c row u true, .lst (rs ++ [.tup [.int c, .str "ask"]]), b]) : wp ((sm P (d + 2)).call 15 [.ref 2] [F, o1, gt L R c row u false, .lst rs, b]) Q := by
  refine wp_call (fn := f15) rfl rfl (by decide) ?_
  show wp (evalSs P (sm P (d + 1)) b15 [some (.ref 2)] _) _
  have hb : ∀ x, ([F, o1, x, .lst rs, b] : Store)[2]? = some x := fun _ => rfl
  refine wp_cons (wp_S_ite ?_)
  simp only [we_var, we_non, we_bl, we_int, we_str, we_glb, ws_nil, ws_cons, we_tup, we_lst, we_bin, we_neg, we_cmp, we_chain, we_and1, we_or1, we_and, we_or, we_not, we_ite, we_idx, wo_none, wo_some, we_slc, we_attr, we_call, we_meth, we_make, we_makek, wmake, we_blt, we_bm, we_isi, we_comp, wf_nil, wf_one, wt_tru, wi_of, wi_range, wi_enum, wg_name, wg_tup, wg_nil, wg_cons, optQ_some, optQ_if, optQ_map, optQ_bind, tst_bl, tst_non, tst_int, b_add, b_sub, b_mul, b_fdiv, b_mod, b_pow, c_lt, c_le, c_gt, c_ge, c_eqI, c_neI, c_isI, c_notI, c_isN, c_notN, i_ii, i_ib, n_i, d_i, l_min, l_max, x_ref, x_new, x_tup, s_new, s_tup, y_new, at_0, at_1, at_2, mat_int, mat_bl, mat_str, mat_non, mat_ref, mats_nil, mats_cons, mat_tup, List.getElem?_cons_zero, List.getElem?_cons_succ, List.set_cons_zero, List.set_cons_succ, decide_eq_true_eq, decide_eq_false_iff_not, wp_ok, rcG (f := 17) rfl, true_implies, false_implies, reduceCtorEq, and_true, true_and, Bool.not_true, Bool.not_false, putA, List.length_nil, List.length_cons, List.set_set, reduceIte, Nat.reduceEqDiff, Nat.zero_ne_one, Nat.one_ne_zero, ne_eq, not_true_eq_false, not_false_eq_true, List.append_assoc, List.cons_append, List.nil_append, List.lookup_cons, List.lookup_nil, Nat.reduceBEq, beq_self_eq_true, Bool.and_true, Bool.true_and, Bool.false_and, Bool.and_false]
  refine state_ok ?_
  simp only [we_var, we_non, we_bl, we_int, we_str, we_glb, ws_nil, ws_cons, we_tup, we_lst, we_bin, we_neg, we_cmp, we_chain, we_and1, we_or1, we_and, we_or, we_not, we_ite, we_idx, wo_none, wo_some, we_slc, we_attr, we_call, we_meth, we_make, we_makek, wmake, we_blt, we_bm, we_isi, we_comp, wf_nil, wf_one, wt_tru, wi_of, wi_range, wi_enum, wg_name, wg_tup, wg_nil, wg_cons, optQ_some, optQ_if, optQ_map, optQ_bind, tst_bl, tst_non, tst_int, b_add, b_sub, b_mul, b_fdiv, b_mod, b_pow, c_lt, c_le, c_gt, c_ge, c_eqI, c_neI, c_isI, c_notI, c_isN, c_notN, i_ii, i_ib, n_i, d_i, l_min, l_max, x_ref, x_new, x_tup, s_new, s_tup, y_new, at_0, at_1, at_2, mat_int, mat_bl, mat_str, mat_non, mat_ref, mats_nil, mats_cons, mat_tup, List.getElem?_cons_zero, List.getElem?_cons_succ, List.set_cons_zero, List.set_cons_succ, decide_eq_true_eq, decide_eq_false_iff_not, wp_ok, c_eqS, hn, decide_false, rcG (f := 17) rfl, true_implies, false_implies, reduceCtorEq, and_true, true_and, Bool.not_true, Bool.not_false, putA, List.length_nil, List.length_cons, List.set_set, reduceIte, Nat.reduceEqDiff, Nat.zero_ne_one, Nat.one_ne_zero, ne_eq, not_true_eq_false, not_false_eq_true, List.append_assoc, List.cons_append, List.nil_append, List.lookup_cons, List.lookup_nil, Nat.reduceBEq, beq_self_eq_true, Bool.and_true, Bool.true_and, Bool.false_and, Bool.and_false]
  refine state_ok ?_
  simp only [we_var, we_non, we_bl, we_int, we_str, we_glb, ws_nil, ws_cons, we_tup, we_lst, we_bin, we_neg, we_cmp, we_chain, we_and1, we_or1, we_and, we_or, we_not, we_ite, we_idx, wo_none, wo_some, we_slc, we_attr, we_call, we_meth, we_make, we_makek, wmake, we_blt, we_bm, we_isi, we_comp, wf_nil, wf_one, wt_tru, wi_of, wi_range, wi_enum, wg_name, wg_tup, wg_nil, wg_cons, optQ_some, optQ_if, optQ_map, optQ_bind, tst_bl, tst_non, tst_int, b_add, b_sub, b_mul, b_fdiv, b_mod, b_pow, c_lt, c_le, c_gt, c_ge, c_eqI, c_neI, c_isI, c_notI, c_isN, c_notN, i_ii, i_ib, n_i, d_i, l_min, l_max, x_ref, x_new, x_tup, s_new, s_tup, y_new, at_0, at_1, at_2, mat_int, mat_bl, mat_str, mat_non, mat_ref, mats_nil, mats_cons, mat_tup, List.getElem?_cons_zero, List.getElem?_cons_succ, List.set_cons_zero, List.set_cons_succ, decide_eq_true_eq, decide_eq_false_iff_not, wp_ok, c_eqS, gt, a_ins (hb _), true_implies, false_implies, reduceCtorEq, and_true, true_and, Bool.not_true, Bool.not_false, putA, List.length_nil, List.length_cons, List.set_set, reduceIte, Nat.reduceEqDiff, Nat.zero_ne_one, Nat.one_ne_zero, ne_eq, not_true_eq_false, not_false_eq_true, List.append_assoc, List.cons_append, List.nil_append, List.lookup_cons, List.lookup_nil, Nat.reduceBEq, beq_self_eq_true, Bool.and_true, Bool.true_and, Bool.false_and, Bool.and_false]
  refine ⟨fun z => ?_, fun z => ⟨fun w => absurd w z, fun _ => ?_⟩⟩
  all_goals
    refine wp_nil (wp_cons (wp_S_attr ?_))
    simp only [we_var, we_non, we_bl, we_int, we_str, we_glb, ws_nil, ws_cons, we_tup, we_lst, we_bin, we_neg, we_cmp, we_chain, we_and1, we_or1, we_and, we_or, we_not, we_ite, we_idx, wo_none, wo_some, we_slc, we_attr, we_call, we_meth, we_make, we_makek, wmake, we_blt, we_bm, we_isi, we_comp, wf_nil, wf_one, wt_tru, wi_of, wi_range, wi_enum, wg_name, wg_tup, wg_nil, wg_cons, optQ_some, optQ_if, optQ_map, optQ_bind, tst_bl, tst_non, tst_int, b_add, b_sub, b_mul, b_fdiv, b_mod, b_pow, c_lt, c_le, c_gt, c_ge, c_eqI, c_neI, c_isI, c_notI, c_isN, c_notN, i_ii, i_ib, n_i, d_i, l_min, l_max, x_ref, x_new, x_tup, s_new, s_tup, y_new, at_0, at_1, at_2, mat_int, mat_bl, mat_str, mat_non, mat_ref, mats_nil, mats_cons, mat_tup, List.getElem?_cons_zero, List.getElem?_cons_succ, List.set_cons_zero, List.set_cons_succ, decide_eq_true_eq, decide_eq_false_iff_not, wp_ok, u_attr (hb _), true_implies, false_implies, reduceCtorEq, and_true, true_and, Bool.not_true, Bool.not_false, putA, List.length_nil, List.length_cons, List.set_set, reduceIte, Nat.reduceEqDiff, Nat.zero_ne_one, Nat.one_ne_zero, ne_eq, not_true_eq_false, not_false_eq_true, List.append_assoc, List.cons_append, List.nil_append, List.lookup_cons, List.lookup_nil, Nat.reduceBEq, beq_self_eq_true, Bool.and_true, Bool.true_and, Bool.false_and, Bool.and_false]
    refine ⟨by decide, ?_⟩
    refine wp_cons (wp_S_expr ?_)
    simp only [we_var, we_non, we_bl, we_int, we_str, we_glb, ws_nil, ws_cons, we_tup, we_lst, we_bin, we_neg, we_cmp, we_chain, we_and1, we_or1, we_and, we_or, we_not, we_ite, we_idx, wo_none, wo_some, we_slc, we_attr, we_call, we_meth, we_make, we_makek, wmake, we_blt, we_bm, we_isi, we_comp, wf_nil, wf_one, wt_tru, wi_of, wi_range, wi_enum, wg_name, wg_tup, wg_nil, wg_cons, optQ_some, optQ_if, optQ_map, optQ_bind, tst_bl, tst_non, tst_int, b_add, b_sub, b_mul, b_fdiv, b_mod, b_pow, c_lt, c_le, c_gt, c_ge, c_eqI, c_neI, c_isI, c_notI, c_isN, c_notN, i_ii, i_ib, n_i, d_i, l_min, l_max, x_ref, x_new, x_tup, s_new, s_tup, y_new, at_0, at_1, at_2, mat_int, mat_bl, mat_str, mat_non, mat_ref, mats_nil, mats_cons, mat_tup, List.getElem?_cons_zero, List.getElem?_cons_succ, List.set_cons_zero, List.set_cons_succ, decide_eq_true_eq, decide_eq_false_iff_not, wp_ok, a_ins (hb _), true_implies, false_implies, reduceCtorEq, and_true, true_and, Bool.not_true, Bool.not_false, putA, List.length_nil, List.length_cons, List.set_set, reduceIte, Nat.reduceEqDiff, Nat.zero_ne_one, Nat.one_ne_zero, ne_eq, not_true_eq_false, not_false_eq_true, List.append_assoc, List.cons_append, List.nil_append, List.lookup_cons, List.lookup_nil, Nat.reduceBEq, beq_self_eq_true, Bool.and_true, Bool.true_and, Bool.false_and, Bool.and_false]
    refine ⟨rfl, by decide, ?_⟩
    exact app_ok rfl hl rfl (wp_nil (ret_n hQ))
/-- what the gate is behind a call that went through -/
def endU (L R c row : Int) (u : Option Int) (good : Bool) : Option Int := if good = true then none else if u ≠ none ∨ L ≤ row + 1 then some (c + R) else none
theorem end_ok {good : Bool} (hl : rs.length < sizeLine) (hQ : ∀ (row' : Int) (s : Str), (s = "good" ∨ s = "bad") → Q .non [F, o1, gt L R c row' (endU L R c row u good) false, .lst (rs ++ [.tup [.int c, .str s]]), b]) : wp ((sm P (d + 2)).call 16 [.ref 2, .bl good] [F, o1, gt L R c row u true, .lst rs, b]) Q := by
  refine wp_call (fn := f16) rfl rfl (by decide) ?_
  show wp (evalSs P (sm P (d + 1)) b16 [some (.ref 2), some (.bl good)] _) _
  have hb : ∀ x y, ([F, o1, x, y, b] : Store)[2]? = some x := fun _ _ => rfl
  unfold b16
  refine wp_cons (wp_S_ite ?_)
  simp only [we_var, we_non, we_bl, we_int, we_str, we_glb, ws_nil, ws_cons, we_tup, we_lst, we_bin, we_neg, we_cmp, we_chain, we_and1, we_or1, we_and, we_or, we_not, we_ite, we_idx, wo_none, wo_some, we_slc, we_attr, we_call, we_meth, we_make, we_makek, wmake, we_blt, we_bm, we_isi, we_comp, wf_nil, wf_one, wt_tru, wi_of, wi_range, wi_enum, wg_name, wg_tup, wg_nil, wg_cons, optQ_some, optQ_if, optQ_map, optQ_bind, tst_bl, tst_non, tst_int, b_add, b_sub, b_mul, b_fdiv, b_mod, b_pow, c_lt, c_le, c_gt, c_ge, c_eqI, c_neI, c_isI, c_notI, c_isN, c_notN, i_ii, i_ib, n_i, d_i, l_min, l_max, x_ref, x_new, x_tup, s_new, s_tup, y_new, at_0, at_1, at_2, mat_int, mat_bl, mat_str, mat_non, mat_ref, mats_nil, mats_cons, mat_tup, List.getElem?_cons_zero, List.getElem?_cons_succ, List.set_cons_zero, List.set_cons_succ, decide_eq_true_eq, decide_eq_false_iff_not, wp_ok, gt, a_ins (hb _ _), true_implies, false_implies, reduceCtorEq, and_true, true_and, Bool.not_true, Bool.not_false, putA, List.length_nil, List.length_cons, List.set_set, reduceIte, Nat.reduceEqDiff, Nat.zero_ne_one, Nat.one_ne_zero, ne_eq, not_true_eq_false, not_false_eq_true, List.append_assoc, List.cons_append, List.nil_append, List.lookup_cons, List.lookup_nil, Nat.reduceBEq, beq_self_eq_true, Bool.and_true, Bool.true_and, Bool.false_and, Bool.and_false]
  refine wp_nil (wp_cons (wp_S_attr ?_))
  simp only [we_var, we_non, we_bl, we_int, we_str, we_glb, ws_nil, ws_cons, we_tup, we_lst, we_bin, we_neg, we_cmp, we_chain, we_and1, we_or1, we_and, we_or, we_not, we_ite, we_idx, wo_none, wo_some, we_slc, we_attr, we_call, we_meth, we_make, we_makek, wmake, we_blt, we_bm, we_isi, we_comp, wf_nil, wf_one, wt_tru, wi_of, wi_range, wi_enum, wg_name, wg_tup, wg_nil, wg_cons, optQ_some, optQ_if, optQ_map, optQ_bind, tst_bl, tst_non, tst_int, b_add, b_sub, b_mul, b_fdiv, b_mod, b_pow, c_lt, c_le, c_gt, c_ge, c_eqI, c_neI, c_isI, c_notI, c_isN, c_notN, i_ii, i_ib, n_i, d_i, l_min, l_max, x_ref, x_new, x_tup, s_new, s_tup, y_new, at_0, at_1, at_2, mat_int, mat_bl, mat_str, mat_non, mat_ref, mats_nil, mats_cons, mat_tup, List.getElem?_cons_zero, List.getElem?_cons_succ, List.set_cons_zero, List.set_cons_succ, decide_eq_true_eq, decide_eq_false_iff_not, wp_ok, u_attr (hb _ _), true_implies, false_implies, reduceCtorEq, and_true, true_and, Bool.not_true, Bool.not_false, putA, List.length_nil, List.length_cons, List.set_set, reduceIte, Nat.reduceEqDiff, Nat.zero_ne_one, Nat.one_ne_zero, ne_eq, not_true_eq_false, not_false_eq_true, List.append_assoc, List.cons_append, List.nil_append, List.lookup_cons, List.lookup_nil, Nat.reduceBEq, beq_self_eq_true, Bool.and_true, Bool.true_and, Bool.false_and, Bool.and_false]
  refine ⟨by decide, ?_⟩
  cases good with
  | true =>
    refine wp_cons (wp_S_expr ?_)
    simp only [we_var, we_non, we_bl, we_int, we_str, we_glb, ws_nil, ws_cons, we_tup, we_lst, we_bin, we_neg, we_cmp, we_chain, we_and1, we_or1, we_and, we_or, we_not, we_ite, we_idx, wo_none, wo_some, we_slc, we_attr, we_call, we_meth, we_make, we_makek, wmake, we_blt, we_bm, we_isi, we_comp, wf_nil, wf_one, wt_tru, wi_of, wi_range, wi_enum, wg_name, wg_tup, wg_nil, wg_cons, optQ_some, optQ_if, optQ_map, optQ_bind, tst_bl, tst_non, tst_int, b_add, b_sub, b_mul, b_fdiv, b_mod, b_pow, c_lt, c_le, c_gt, c_ge, c_eqI, c_neI, c_isI, c_notI, c_isN, c_notN, i_ii, i_ib, n_i, d_i, l_min, l_max, x_ref, x_new, x_tup, s_new, s_tup, y_new, at_0, at_1, at_2, mat_int, mat_bl, mat_str, mat_non, mat_ref, mats_nil, mats_cons, mat_tup, List.getElem?_cons_zero, List.getElem?_cons_succ, List.set_cons_zero, List.set_cons_succ, decide_eq_true_eq, decide_eq_false_iff_not, wp_ok, a_ins (hb _ _), true_implies, false_implies, reduceCtorEq, and_true, true_and, Bool.not_true, Bool.not_false, putA, List.length_nil, List.length_cons, List.set_set, reduceIte, Nat.reduceEqDiff, Nat.zero_ne_one, Nat.one_ne_zero, ne_eq, not_true_eq_false, not_false_eq_true, List.append_assoc, List.cons_append, List.nil_append, List.lookup_cons, List.lookup_nil, Nat.reduceBEq, beq_self_eq_true, Bool.and_true, Bool.true_and, Bool.false_and, Bool.and_false]
    refine ⟨rfl, by decide, ?_⟩
    refine app_ok rfl hl rfl ?_
    simp only [we_var, we_non, we_bl, we_int, we_str, we_glb, ws_nil, ws_cons, we_tup, we_lst, we_bin, we_neg, we_cmp, we_chain, we_and1, we_or1, we_and, we_or, we_not, we_ite, we_idx, wo_none, wo_some, we_slc, we_attr, we_call, we_meth, we_make, we_makek, wmake, we_blt, we_bm, we_isi, we_comp, wf_nil, wf_one, wt_tru, wi_of, wi_range, wi_enum, wg_name, wg_tup, wg_nil, wg_cons, optQ_some, optQ_if, optQ_map, optQ_bind, tst_bl, tst_non, tst_int, b_add, b_sub, b_mul, b_fdiv, b_mod, b_pow, c_lt, c_le, c_gt, c_ge, c_eqI, c_neI, c_isI, c_notI, c_isN, c_notN, i_ii, i_ib, n_i, d_i, l_min, l_max, x_ref, x_new, x_tup, s_new, s_tup, y_new, at_0, at_1, at_2, mat_int, mat_bl, mat_str, mat_non, mat_ref, mats_nil, mats_cons, mat_tup, List.getElem?_cons_zero, List.getElem?_cons_succ, List.set_cons_zero, List.set_cons_succ, decide_eq_true_eq, decide_eq_false_iff_not, wp_ok, true_implies, false_implies, reduceCtorEq, and_true, true_and, Bool.not_true, Bool.not_false, putA, List.length_nil, List.length_cons, List.set_set, reduceIte, Nat.reduceEqDiff, Nat.zero_ne_one, Nat.one_ne_zero, ne_eq, not_true_eq_false, not_false_eq_true, List.append_assoc, List.cons_append, List.nil_append, List.lookup_cons, List.lookup_nil, Nat.reduceBEq, beq_self_eq_true, Bool.and_true, Bool.true_and, Bool.false_and, Bool.and_false]
    refine wp_cons (wp_S_ite ?_)
    simp only [we_var, we_non, we_bl, we_int, we_str, we_glb, ws_nil, ws_cons, we_tup, we_lst, we_bin, we_neg, we_cmp, we_chain, we_and1, we_or1, we_and, we_or, we_not, we_ite, we_idx, wo_none, wo_some, we_slc, we_attr, we_call, we_meth, we_make, we_makek, wmake, we_blt, we_bm, we_isi, we_comp, wf_nil, wf_one, wt_tru, wi_of, wi_range, wi_enum, wg_name, wg_tup, wg_nil, wg_cons, optQ_some, optQ_if, optQ_map, optQ_bind, tst_bl, tst_non, tst_int, b_add, b_sub, b_mul, b_fdiv, b_mod, b_pow, c_lt, c_le, c_gt, c_ge, c_eqI, c_neI, c_isI, c_notI, c_isN, c_notN, i_ii, i_ib, n_i, d_i, l_min, l_max, x_ref, x_new, x_tup, s_new, s_tup, y_new, at_0, at_1, at_2, mat_int, mat_bl, mat_str, mat_non, mat_ref, mats_nil, mats_cons, mat_tup, List.getElem?_cons_zero, List.getElem?_cons_succ, List.set_cons_zero, List.set_cons_succ, decide_eq_true_eq, decide_eq_false_iff_not, wp_ok, true_implies, false_implies, reduceCtorEq, and_true, true_and, Bool.not_true, Bool.not_false, putA, List.length_nil, List.length_cons, List.set_set, reduceIte, Nat.reduceEqDiff, Nat.zero_ne_one, Nat.one_ne_zero, ne_eq, not_true_eq_false, not_false_eq_true, List.append_assoc, List.cons_append, List.nil_append, List.lookup_cons, List.lookup_nil, Nat.reduceBEq, beq_self_eq_true, Bool.and_true, Bool.true_and, Bool.false_and, Bool.and_false]
    refine wp_cons (wp_S_attr ?_)
    simp only [we_var, we_non, we_bl, we_int, we_str, we_glb, ws_nil, ws_cons, we_tup, we_lst, we_bin, we_neg, we_cmp, we_chain, we_and1, we_or1, we_and, we_or, we_not, we_ite, we_idx, wo_none, wo_some, we_slc, we_attr, we_call, we_meth, we_make, we_makek, wmake, we_blt, we_bm, we_isi, we_comp, wf_nil, wf_one, wt_tru, wi_of, wi_range, wi_enum, wg_name, wg_tup, wg_nil, wg_cons, optQ_some, optQ_if, optQ_map, optQ_bind, tst_bl, tst_non, tst_int, b_add, b_sub, b_mul, b_fdiv, b_mod, b_pow, c_lt, c_le, c_gt, c_ge, c_eqI, c_neI, c_isI, c_notI, c_isN, c_notN, i_ii, i_ib, n_i, d_i, l_min, l_max, x_ref, x_new, x_tup, s_new, s_tup, y_new, at_0, at_1, at_2, mat_int, mat_bl, mat_str, mat_non, mat_ref, mats_nil, mats_cons, mat_tup, List.getElem?_cons_zero, List.getElem?_cons_succ, List.set_cons_zero, List.set_cons_succ, decide_eq_true_eq, decide_eq_false_iff_not, wp_ok, u_attr (hb _ _), true_implies, false_implies, reduceCtorEq, and_true, true_and, Bool.not_true, Bool.not_false, putA, List.length_nil, List.length_cons, List.set_set, reduceIte, Nat.reduceEqDiff, Nat.zero_ne_one, Nat.one_ne_zero, ne_eq, not_true_eq_false, not_false_eq_true, List.append_assoc, List.cons_append, List.nil_append, List.lookup_cons, List.lookup_nil, Nat.reduceBEq, beq_self_eq_true, Bool.and_true, Bool.true_and, Bool.false_and, Bool.and_false]
    refine ⟨by decide, ?_⟩
    refine wp_cons (wp_S_attr ?_)
    simp only [we_var, we_non, we_bl, we_int, we_str, we_glb, ws_nil, ws_cons, we_tup, we_lst, we_bin, we_neg, we_cmp, we_chain, we_and1, we_or1, we_and, we_or, we_not, we_ite, we_idx, wo_none, wo_some, we_slc, we_attr, we_call, we_meth, we_make, we_makek, wmake, we_blt, we_bm, we_isi, we_comp, wf_nil, wf_one, wt_tru, wi_of, wi_range, wi_enum, wg_name, wg_tup, wg_nil, wg_cons, optQ_some, optQ_if, optQ_map, optQ_bind, tst_bl, tst_non, tst_int, b_add, b_sub, b_mul, b_fdiv, b_mod, b_pow, c_lt, c_le, c_gt, c_ge, c_eqI, c_neI, c_isI, c_notI, c_isN, c_notN, i_ii, i_ib, n_i, d_i, l_min, l_max, x_ref, x_new, x_tup, s_new, s_tup, y_new, at_0, at_1, at_2, mat_int, mat_bl, mat_str, mat_non, mat_ref, mats_nil, mats_cons, mat_tup, List.getElem?_cons_zero, List.getElem?_cons_succ, List.set_cons_zero, List.set_cons_succ, decide_eq_true_eq, decide_eq_false_iff_not, wp_ok, u_attr (hb _ _), true_implies, false_implies, reduceCtorEq, and_true, true_and, Bool.not_true, Bool.not_false, putA, List.length_nil, List.length_cons, List.set_set, reduceIte, Nat.reduceEqDiff, Nat.zero_ne_one, Nat.one_ne_zero, ne_eq, not_true_eq_false, not_false_eq_true, List.append_assoc, List.cons_append, List.nil_append, List.lookup_cons, List.lookup_nil, Nat.reduceBEq, beq_self_eq_true, Bool.and_true, Bool.true_and, Bool.false_and, Bool.and_false]
    exact ⟨by decide, wp_nil (wp_nil (ret_n (hQ 0 "good" (.inl rfl))))⟩
  | false =>
    refine wp_cons (wp_S_expr ?_)
    simp only [we_var, we_non, we_bl, we_int, we_str, we_glb, ws_nil, ws_cons, we_tup, we_lst, we_bin, we_neg, we_cmp, we_chain, we_and1, we_or1, we_and, we_or, we_not, we_ite, we_idx, wo_none, wo_some, we_slc, we_attr, we_call, we_meth, we_make, we_makek, wmake, we_blt, we_bm, we_isi, we_comp, wf_nil, wf_one, wt_tru, wi_of, wi_range, wi_enum, wg_name, wg_tup, wg_nil, wg_cons, optQ_some, optQ_if, optQ_map, optQ_bind, tst_bl, tst_non, tst_int, b_add, b_sub, b_mul, b_fdiv, b_mod, b_pow, c_lt, c_le, c_gt, c_ge, c_eqI, c_neI, c_isI, c_notI, c_isN, c_notN, i_ii, i_ib, n_i, d_i, l_min, l_max, x_ref, x_new, x_tup, s_new, s_tup, y_new, at_0, at_1, at_2, mat_int, mat_bl, mat_str, mat_non, mat_ref, mats_nil, mats_cons, mat_tup, List.getElem?_cons_zero, List.getElem?_cons_succ, List.set_cons_zero, List.set_cons_succ, decide_eq_true_eq, decide_eq_false_iff_not, wp_ok, a_ins (hb _ _), true_implies, false_implies, reduceCtorEq, and_true, true_and, Bool.not_true, Bool.not_false, putA, List.length_nil, List.length_cons, List.set_set, reduceIte, Nat.reduceEqDiff, Nat.zero_ne_one, Nat.one_ne_zero, ne_eq, not_true_eq_false, not_false_eq_true, List.append_assoc, List.cons_append, List.nil_append, List.lookup_cons, List.lookup_nil, Nat.reduceBEq, beq_self_eq_true, Bool.and_true, Bool.true_and, Bool.false_and, Bool.and_false]
    refine ⟨rfl, by decide, ?_⟩
    refine app_ok rfl hl rfl ?_
    simp only [we_var, we_non, we_bl, we_int, we_str, we_glb, ws_nil, ws_cons, we_tup, we_lst, we_bin, we_neg, we_cmp, we_chain, we_and1, we_or1, we_and, we_or, we_not, we_ite, we_idx, wo_none, wo_some, we_slc, we_attr, we_call, we_meth, we_make, we_makek, wmake, we_blt, we_bm, we_isi, we_comp, wf_nil, wf_one, wt_tru, wi_of, wi_range, wi_enum, wg_name, wg_tup, wg_nil, wg_cons, optQ_some, optQ_if, optQ_map, optQ_bind, tst_bl, tst_non, tst_int, b_add, b_sub, b_mul, b_fdiv, b_mod, b_pow, c_lt, c_le, c_gt, c_ge, c_eqI, c_neI, c_isI, c_notI, c_isN, c_notN, i_ii, i_ib, n_i, d_i, l_min, l_max, x_ref, x_new, x_tup, s_new, s_tup, y_new, at_0, at_1, at_2, mat_int, mat_bl, mat_str, mat_non, mat_ref, mats_nil, mats_cons, mat_tup, List.getElem?_cons_zero, List.getElem?_cons_succ, List.set_cons_zero, List.set_cons_succ, decide_eq_true_eq, decide_eq_false_iff_not, wp_ok, true_implies, false_implies, reduceCtorEq, and_true, true_and, Bool.not_true, Bool.not_false, putA, List.length_nil, List.length_cons, List.set_set, reduceIte, Nat.reduceEqDiff, Nat.zero_ne_one, Nat.one_ne_zero, ne_eq, not_true_eq_false, not_false_eq_true, List.append_assoc, List.cons_append, List.nil_append, List.lookup_cons, List.lookup_nil, Nat.reduceBEq, beq_self_eq_true, Bool.and_true, Bool.true_and, Bool.false_and, Bool.and_false]
    refine wp_cons (wp_S_ite ?_)
    simp only [we_var, we_non, we_bl, we_int, we_str, we_glb, ws_nil, ws_cons, we_tup, we_lst, we_bin, we_neg, we_cmp, we_chain, we_and1, we_or1, we_and, we_or, we_not, we_ite, we_idx, wo_none, wo_some, we_slc, we_attr, we_call, we_meth, we_make, we_makek, wmake, we_blt, we_bm, we_isi, we_comp, wf_nil, wf_one, wt_tru, wi_of, wi_range, wi_enum, wg_name, wg_tup, wg_nil, wg_cons, optQ_some, optQ_if, optQ_map, optQ_bind, tst_bl, tst_non, tst_int, b_add, b_sub, b_mul, b_fdiv, b_mod, b_pow, c_lt, c_le, c_gt, c_ge, c_eqI, c_neI, c_isI, c_notI, c_isN, c_notN, i_ii, i_ib, n_i, d_i, l_min, l_max, x_ref, x_new, x_tup, s_new, s_tup, y_new, at_0, at_1, at_2, mat_int, mat_bl, mat_str, mat_non, mat_ref, mats_nil, mats_cons, mat_tup, List.getElem?_cons_zero, List.getElem?_cons_succ, List.set_cons_zero, List.set_cons_succ, decide_eq_true_eq, decide_eq_false_iff_not, wp_ok, true_implies, false_implies, reduceCtorEq, and_true, true_and, Bool.not_true, Bool.not_false, putA, List.length_nil, List.length_cons, List.set_set, reduceIte, Nat.reduceEqDiff, Nat.zero_ne_one, Nat.one_ne_zero, ne_eq, not_true_eq_false, not_false_eq_true, List.append_assoc, List.cons_append, List.nil_append, List.lookup_cons, List.lookup_nil, Nat.reduceBEq, beq_self_eq_true, Bool.and_true, Bool.true_and, Bool.false_and, Bool.and_false]
    refine wp_cons (wp_S_attr ?_)
    simp only [we_var, we_non, we_bl, we_int, we_str, we_glb, ws_nil, ws_cons, we_tup, we_lst, we_bin, we_neg, we_cmp, we_chain, we_and1, we_or1, we_and, we_or, we_not, we_ite, we_idx, wo_none, wo_some, we_slc, we_attr, we_call, we_meth, we_make, we_makek, wmake, we_blt, we_bm, we_isi, we_comp, wf_nil, wf_one, wt_tru, wi_of, wi_range, wi_enum, wg_name, wg_tup, wg_nil, wg_cons, optQ_some, optQ_if, optQ_map, optQ_bind, tst_bl, tst_non, tst_int, b_add, b_sub, b_mul, b_fdiv, b_mod, b_pow, c_lt, c_le, c_gt, c_ge, c_eqI, c_neI, c_isI, c_notI, c_isN, c_notN, i_ii, i_ib, n_i, d_i, l_min, l_max, x_ref, x_new, x_tup, s_new, s_tup, y_new, at_0, at_1, at_2, mat_int, mat_bl, mat_str, mat_non, mat_ref, mats_nil, mats_cons, mat_tup, List.getElem?_cons_zero, List.getElem?_cons_succ, List.set_cons_zero, List.set_cons_succ, decide_eq_true_eq, decide_eq_false_iff_not, wp_ok, a_ins (hb _ _), u_attr (hb _ _), true_implies, false_implies, reduceCtorEq, and_true, true_and, Bool.not_true, Bool.not_false, putA, List.length_nil, List.length_cons, List.set_set, reduceIte, Nat.reduceEqDiff, Nat.zero_ne_one, Nat.one_ne_zero, ne_eq, not_true_eq_false, not_false_eq_true, List.append_assoc, List.cons_append, List.nil_append, List.lookup_cons, List.lookup_nil, Nat.reduceBEq, beq_self_eq_true, Bool.and_true, Bool.true_and, Bool.false_and, Bool.and_false]
    refine ⟨by decide, ?_⟩
    refine wp_cons (wp_S_ite ?_)
    have set : u ≠ none ∨ L ≤ row + 1 → wp (evalSs P (sm P (d + 1)) [.attr (.var 0) 9 (.bin .add (.attr (.var 0) 7) (.attr (.var 0) 6)), .attr (.var 0) 8 (.int 0)] [some (.ref 2), some (.bl false)]
        [F, o1, gt L R c (row + 1) u false, .lst (rs ++ [.tup [.int c, .str "bad"]]), b]) (fun q S1 => match q.1 with
          | .nx => wp (evalSs P (sm P (d + 1)) [] q.2 S1) fun q S1 => match q.1 with
            | .nx => wp (evalSs P (sm P (d + 1)) [] q.2 S1) (retQ false [F, o1, gt L R c row u true, .lst rs, b] Q)
            | .rt d => retQ false [F, o1, gt L R c row u true, .lst rs, b] Q (.rt d, q.2) S1
            | .bk => retQ false [F, o1, gt L R c row u true, .lst rs, b] Q (.bk, q.2) S1
            | .ct => retQ false [F, o1, gt L R c row u true, .lst rs, b] Q (.ct, q.2) S1
          | .rt d => retQ false [F, o1, gt L R c row u true, .lst rs, b] Q (.rt d, q.2) S1
          | .bk => retQ false [F, o1, gt L R c row u true, .lst rs, b] Q (.bk, q.2) S1
          | .ct => retQ false [F, o1, gt L R c row u true, .lst rs, b] Q (.ct, q.2) S1) := fun hc => by
      refine wp_cons (wp_S_attr ?_)
      simp only [we_var, we_non, we_bl, we_int, we_str, we_glb, ws_nil, ws_cons, we_tup, we_lst, we_bin, we_neg, we_cmp, we_chain, we_and1, we_or1, we_and, we_or, we_not, we_ite, we_idx, wo_none, wo_some, we_slc, we_attr, we_call, we_meth, we_make, we_makek, wmake, we_blt, we_bm, we_isi, we_comp, wf_nil, wf_one, wt_tru, wi_of, wi_range, wi_enum, wg_name, wg_tup, wg_nil, wg_cons, optQ_some, optQ_if, optQ_map, optQ_bind, tst_bl, tst_non, tst_int, b_add, b_sub, b_mul, b_fdiv, b_mod, b_pow, c_lt, c_le, c_gt, c_ge, c_eqI, c_neI, c_isI, c_notI, c_isN, c_notN, i_ii, i_ib, n_i, d_i, l_min, l_max, x_ref, x_new, x_tup, s_new, s_tup, y_new, at_0, at_1, at_2, mat_int, mat_bl, mat_str, mat_non, mat_ref, mats_nil, mats_cons, mat_tup, List.getElem?_cons_zero, List.getElem?_cons_succ, List.set_cons_zero, List.set_cons_succ, decide_eq_true_eq, decide_eq_false_iff_not, wp_ok, gt, a_ins (hb _ _), u_attr (hb _ _), true_implies, false_implies, reduceCtorEq, and_true, true_and, Bool.not_true, Bool.not_false, putA, List.length_nil, List.length_cons, List.set_set, reduceIte, Nat.reduceEqDiff, Nat.zero_ne_one, Nat.one_ne_zero, ne_eq, not_true_eq_false, not_false_eq_true, List.append_assoc, List.cons_append, List.nil_append, List.lookup_cons, List.lookup_nil, Nat.reduceBEq, beq_self_eq_true, Bool.and_true, Bool.true_and, Bool.false_and, Bool.and_false]
      refine ⟨by decide, ?_⟩
      refine wp_cons (wp_S_attr ?_)
      simp only [we_var, we_non, we_bl, we_int, we_str, we_glb, ws_nil, ws_cons, we_tup, we_lst, we_bin, we_neg, we_cmp, we_chain, we_and1, we_or1, we_and, we_or, we_not, we_ite, we_idx, wo_none, wo_some, we_slc, we_attr, we_call, we_meth, we_make, we_makek, wmake, we_blt, we_bm, we_isi, we_comp, wf_nil, wf_one, wt_tru, wi_of, wi_range, wi_enum, wg_name, wg_tup, wg_nil, wg_cons, optQ_some, optQ_if, optQ_map, optQ_bind, tst_bl, tst_non, tst_int, b_add, b_sub, b_mul, b_fdiv, b_mod, b_pow, c_lt, c_le, c_gt, c_ge, c_eqI, c_neI, c_isI, c_notI, c_isN, c_notN, i_ii, i_ib, n_i, d_i, l_min, l_max, x_ref, x_new, x_tup, s_new, s_tup, y_new, at_0, at_1, at_2, mat_int, mat_bl, mat_str, mat_non, mat_ref, mats_nil, mats_cons, mat_tup, List.getElem?_cons_zero, List.getElem?_cons_succ, List.set_cons_zero, List.set_cons_succ, decide_eq_true_eq, decide_eq_false_iff_not, wp_ok, a_ins (hb _ _), u_attr (hb _ _), true_implies, false_implies, reduceCtorEq, and_true, true_and, Bool.not_true, Bool.not_false, putA, List.length_nil, List.length_cons, List.set_set, reduceIte, Nat.reduceEqDiff, Nat.zero_ne_one, Nat.one_ne_zero, ne_eq, not_true_eq_false, not_false_eq_true, List.append_assoc, List.cons_append, List.nil_append, List.lookup_cons, List.lookup_nil, Nat.reduceBEq, beq_self_eq_true, Bool.and_true, Bool.true_and, Bool.false_and, Bool.and_false]
      refine ⟨by decide, wp_nil (wp_nil (wp_nil (ret_n ?_)))⟩
      have e : endU L R c row u false = some (c + R) := by unfold endU; rw [if_neg (by simp), if_pos hc]
      have := hQ 0 "bad" (.inr rfl)
      rw [e] at this
      exact this
    cases u with
    | some v =>
      simp only [we_var, we_non, we_bl, we_int, we_str, we_glb, ws_nil, ws_cons, we_tup, we_lst, we_bin, we_neg, we_cmp, we_chain, we_and1, we_or1, we_and, we_or, we_not, we_ite, we_idx, wo_none, wo_some, we_slc, we_attr, we_call, we_meth, we_make, we_makek, wmake, we_blt, we_bm, we_isi, we_comp, wf_nil, wf_one, wt_tru, wi_of, wi_range, wi_enum, wg_name, wg_tup, wg_nil, wg_cons, optQ_some, optQ_if, optQ_map, optQ_bind, tst_bl, tst_non, tst_int, b_add, b_sub, b_mul, b_fdiv, b_mod, b_pow, c_lt, c_le, c_gt, c_ge, c_eqI, c_neI, c_isI, c_notI, c_isN, c_notN, i_ii, i_ib, n_i, d_i, l_min, l_max, x_ref, x_new, x_tup, s_new, s_tup, y_new, at_0, at_1, at_2, mat_int, mat_bl, mat_str, mat_non, mat_ref, mats_nil, mats_cons, mat_tup, List.getElem?_cons_zero, List.getElem?_cons_succ, List.set_cons_zero, List.set_cons_succ, decide_eq_true_eq, decide_eq_false_iff_not, wp_ok, uD, a_ins (hb _ _), true_implies, false_implies, reduceCtorEq, and_true, true_and, Bool.not_true, Bool.not_false, putA, List.length_nil, List.length_cons, List.set_set, reduceIte, Nat.reduceEqDiff, Nat.zero_ne_one, Nat.one_ne_zero, ne_eq, not_true_eq_false, not_false_eq_true, List.append_assoc, List.cons_append, List.nil_append, List.lookup_cons, List.lookup_nil, Nat.reduceBEq, beq_self_eq_true, Bool.and_true, Bool.true_and, Bool.false_and, Bool.and_false]
      exact set (.inl (by simp))
    | none =>
      simp only [we_var, we_non, we_bl, we_int, we_str, we_glb, ws_nil, ws_cons, we_tup, we_lst, we_bin, we_neg, we_cmp, we_chain, we_and1, we_or1, we_and, we_or, we_not, we_ite, we_idx, wo_none, wo_some, we_slc, we_attr, we_call, we_meth, we_make, we_makek, wmake, we_blt, we_bm, we_isi, we_comp, wf_nil, wf_one, wt_tru, wi_of, wi_range, wi_enum, wg_name, wg_tup, wg_nil, wg_cons, optQ_some, optQ_if, optQ_map, optQ_bind, tst_bl, tst_non, tst_int, b_add, b_sub, b_mul, b_fdiv, b_mod, b_pow, c_lt, c_le, c_gt, c_ge, c_eqI, c_neI, c_isI, c_notI, c_isN, c_notN, i_ii, i_ib, n_i, d_i, l_min, l_max, x_ref, x_new, x_tup, s_new, s_tup, y_new, at_0, at_1, at_2, mat_int, mat_bl, mat_str, mat_non, mat_ref, mats_nil, mats_cons, mat_tup, List.getElem?_cons_zero, List.getElem?_cons_succ, List.set_cons_zero, List.set_cons_succ, decide_eq_true_eq, decide_eq_false_iff_not, wp_ok, uD, a_ins (hb _ _), true_implies, false_implies, reduceCtorEq, and_true, true_and, Bool.not_true, Bool.not_false, putA, List.length_nil, List.length_cons, List.set_set, reduceIte, Nat.reduceEqDiff, Nat.zero_ne_one, Nat.one_ne_zero, ne_eq, not_true_eq_false, not_false_eq_true, List.append_assoc, List.cons_append, List.nil_append, List.lookup_cons, List.lookup_nil, Nat.reduceBEq, beq_self_eq_true, Bool.and_true, Bool.true_and, Bool.false_and, Bool.and_false]
      refine ⟨fun z => set (.inr z), fun z => wp_nil (wp_nil (wp_nil (ret_n ?_)))⟩
      have e : endU L R c row none false = none := by unfold endU; rw [if_neg (by simp), if_neg (by simp; omega)]
      have := hQ (row + 1) "bad" (.inr rfl)
      rw [e] at this
      exact this
/-! ### a call, tried again -/
def isAsk : D → Bool
  | .tup [_, .str s] => decide (s = "ask")
  | _ => false
structure RowsOk (rs : List D) : Prop where
  row : ∀ x ∈ rs, ∃ (t : Int) (s : Str), x = .tup [.int t, .str s]
  half : 2 * (rs.filter isAsk).length = rs.length
theorem RowsOk.add {rs : List D} (h : RowsOk rs) (c : Int) {s : Str} (hs : s = "good" ∨ s = "bad") : RowsOk (rs ++ [.tup [.int c, .str "ask"]] ++ [.tup [.int c, .str s]]) := by
  have e1 : isAsk (.tup [.int c, .str "ask"]) = true := by show decide (("ask" : Str) = "ask") = true; decide
  have e2 : isAsk (.tup [.int c, .str s]) = false := by
    rcases hs with rfl | rfl
    · show decide (("good" : Str) = "ask") = false; decide
    · show decide (("bad" : Str) = "ask") = false; decide
  refine ⟨fun x hx => ?_, ?_⟩
  · rcases List.mem_append.mp hx with q | q
    · rcases List.mem_append.mp q with q | q
      · exact h.row x q
      · exact ⟨c, "ask", by simpa using q⟩
    · exact ⟨c, s, by simpa using q⟩
  · simp only [List.filter_append, List.length_append, List.filter_cons, e1, e2, List.filter_nil, if_true, Bool.false_eq_true, if_false, List.length_cons, List.length_nil]
    have := h.half
    omega
structure Res (good : Bool) (u u' : Option Int) (c R f : Int) : Prop where
  zero : f = 0 ↔ stS u c = "shut"
  good1 : good = true → ¬ stS u c = "shut" → f = 1 ∧ u' = none
  shut : stS u c = "shut" → u' = u
  ajar : good = false → stS u c = "ajar" → f = 1 ∧ u' = some (c + R)
  some_ : u' = none ∨ u' = u ∨ (good = false ∧ u' = some (c + R))
theorem res_of {good : Bool} {u u' : Option Int} {c R : Int} {i : Nat} (i0 : 0 < i) (n1 : good = false) (n2 : ¬ stS u c = "shut") (n3 : u' = none ∨ u' = some (c + R)) (n4 : stS u c = "ajar" → i = 1 ∧ u' = some (c + R)) : Res good u u' c R i := by
  refine ⟨⟨fun z => by omega, fun z => absurd z n2⟩, fun z => (by rw [n1] at z; cases z), fun z => absurd z n2, fun _ z => ?_, ?_⟩
  · obtain ⟨q1, q2⟩ := n4 z
    exact ⟨by omega, q2⟩
  · rcases n3 with q | q
    · exact .inl q
    · exact .inr (.inr ⟨n1, q⟩)
/-- ahead of an attempt -/
structure LI (F o1 : O) (good : Bool) (c R L p cc h1 r : Int) (u : Option Int) (n : Nat) (i : Nat) (ρ : AEnv) (S : Store) : Prop where
  ex : ∃ (row' : Int) (u' : Option Int) (rs' : List D) (h' r' : Int) (t4 : Option D), ρ = [some (.ref 2), some (.ref 4), some (.bl good), some (.int (i : Nat)), t4] ∧
    S = [F, o1, gt L R c row' u' false, .lst rs', bud 10 p h' (cc + 1) r'] ∧ RowsOk rs' ∧ rs'.length = n + 2 * i ∧ i ≤ 4 ∧ 0 ≤ h' ∧ h' + p * r' = h1 + p * r ∧ r ≤ r' ∧ (i = 0 → u' = u) ∧
    (0 < i → good = false ∧ ¬ stS u c = "shut" ∧ (u' = none ∨ u' = some (c + R)) ∧ (stS u c = "ajar" → i = 1 ∧ u' = some (c + R)))
theorem lawcall_ok {cc : Int} {good : Bool} (hp : 1 ≤ p) (h0 : 0 ≤ h) (hR : 1 ≤ R) (hrs : RowsOk rs) (hl : rs.length ≤ 10000) (hQ : ∀ (f row' : Int) (u' : Option Int) (rs' : List D) (h' r' : Int), Res good u u' c R f → RowsOk rs' → rs'.length ≤ rs.length + 8 → 0 ≤ h' → h' + p * r' = (if h + 1 < 10 then h + 1 else 10) + p * r → r ≤ r' →
      Q (.int f) [F, o1, gt L R c row' u' false, .lst rs', bud 10 p h' (cc + 1) r']) :
    wp ((sm P (d + 4)).call 5 [.ref 2, .ref 4, .bl good] [F, o1, gt L R c row u false, .lst rs, bud 10 p h cc r]) Q := by
  have big : (20000 : Nat) ≤ sizeLine := by decide
  refine wp_call (fn := f5) rfl rfl (by decide) ?_
  show wp (evalSs P (sm P (d + 3)) b5 [some (.ref 2), some (.ref 4), some (.bl good), none, none] _) _
  unfold b5
  refine wp_cons (wp_S_expr ?_)
  simp only [we_var, we_non, we_bl, we_int, we_str, we_glb, ws_nil, ws_cons, we_tup, we_lst, we_bin, we_neg, we_cmp, we_chain, we_and1, we_or1, we_and, we_or, we_not, we_ite, we_idx, wo_none, wo_some, we_slc, we_attr, we_call, we_meth, we_make, we_makek, wmake, we_blt, we_bm, we_isi, we_comp, wf_nil, wf_one, wt_tru, wi_of, wi_range, wi_enum, wg_name, wg_tup, wg_nil, wg_cons, optQ_some, optQ_if, optQ_map, optQ_bind, tst_bl, tst_non, tst_int, b_add, b_sub, b_mul, b_fdiv, b_mod, b_pow, c_lt, c_le, c_gt, c_ge, c_eqI, c_neI, c_isI, c_notI, c_isN, c_notN, i_ii, i_ib, n_i, d_i, l_min, l_max, x_ref, x_new, x_tup, s_new, s_tup, y_new, at_0, at_1, at_2, mat_int, mat_bl, mat_str, mat_non, mat_ref, mats_nil, mats_cons, mat_tup, List.getElem?_cons_zero, List.getElem?_cons_succ, List.set_cons_zero, List.set_cons_succ, decide_eq_true_eq, decide_eq_false_iff_not, wp_ok, rcB (f := 12) rfl, true_implies, false_implies, reduceCtorEq, and_true, true_and, Bool.not_true, Bool.not_false, putA, List.length_nil, List.length_cons, List.set_set, reduceIte, Nat.reduceEqDiff, Nat.zero_ne_one, Nat.one_ne_zero, ne_eq, not_true_eq_false, not_false_eq_true, List.append_assoc, List.cons_append, List.nil_append, List.lookup_cons, List.lookup_nil, Nat.reduceBEq, beq_self_eq_true, Bool.and_true, Bool.true_and, Bool.false_and, Bool.and_false]
  refine bcall_ok ?_
  refine wp_cons (wp_S_set ?_)
  simp only [we_var, we_non, we_bl, we_int, we_str, we_glb, ws_nil, ws_cons, we_tup, we_lst, we_bin, we_neg, we_cmp, we_chain, we_and1, we_or1, we_and, we_or, we_not, we_ite, we_idx, wo_none, wo_some, we_slc, we_attr, we_call, we_meth, we_make, we_makek, wmake, we_blt, we_bm, we_isi, we_comp, wf_nil, wf_one, wt_tru, wi_of, wi_range, wi_enum, wg_name, wg_tup, wg_nil, wg_cons, optQ_some, optQ_if, optQ_map, optQ_bind, tst_bl, tst_non, tst_int, b_add, b_sub, b_mul, b_fdiv, b_mod, b_pow, c_lt, c_le, c_gt, c_ge, c_eqI, c_neI, c_isI, c_notI, c_isN, c_notN, i_ii, i_ib, n_i, d_i, l_min, l_max, x_ref, x_new, x_tup, s_new, s_tup, y_new, at_0, at_1, at_2, mat_int, mat_bl, mat_str, mat_non, mat_ref, mats_nil, mats_cons, mat_tup, List.getElem?_cons_zero, List.getElem?_cons_succ, List.set_cons_zero, List.set_cons_succ, decide_eq_true_eq, decide_eq_false_iff_not, wp_ok, true_implies, false_implies, reduceCtorEq, and_true, true_and, Bool.not_true, Bool.not_false, putA, List.length_nil, List.length_cons, List.set_set, reduceIte, Nat.reduceEqDiff, Nat.zero_ne_one, Nat.one_ne_zero, ne_eq, not_true_eq_false, not_false_eq_true, List.append_assoc, List.cons_append, List.nil_append, List.lookup_cons, List.lookup_nil, Nat.reduceBEq, beq_self_eq_true, Bool.and_true, Bool.true_and, Bool.false_and, Bool.and_false]
  generalize hh1 : (if h + 1 < 10 then h + 1 else 10) = h1 at hQ ⊢
  have h10 : 0 ≤ h1 := by rw [← hh1]; split <;> omega
  refine wp_cons (wp_S_for ?_)
  simp only [we_var, we_non, we_bl, we_int, we_str, we_glb, ws_nil, ws_cons, we_tup, we_lst, we_bin, we_neg, we_cmp, we_chain, we_and1, we_or1, we_and, we_or, we_not, we_ite, we_idx, wo_none, wo_some, we_slc, we_attr, we_call, we_meth, we_make, we_makek, wmake, we_blt, we_bm, we_isi, we_comp, wf_nil, wf_one, wt_tru, wi_of, wi_range, wi_enum, wg_name, wg_tup, wg_nil, wg_cons, optQ_some, optQ_if, optQ_map, optQ_bind, tst_bl, tst_non, tst_int, b_add, b_sub, b_mul, b_fdiv, b_mod, b_pow, c_lt, c_le, c_gt, c_ge, c_eqI, c_neI, c_isI, c_notI, c_isN, c_notN, i_ii, i_ib, n_i, d_i, l_min, l_max, x_ref, x_new, x_tup, s_new, s_tup, y_new, at_0, at_1, at_2, mat_int, mat_bl, mat_str, mat_non, mat_ref, mats_nil, mats_cons, mat_tup, List.getElem?_cons_zero, List.getElem?_cons_succ, List.set_cons_zero, List.set_cons_succ, decide_eq_true_eq, decide_eq_false_iff_not, wp_ok, true_implies, false_implies, reduceCtorEq, and_true, true_and, Bool.not_true, Bool.not_false, putA, List.length_nil, List.length_cons, List.set_set, reduceIte, Nat.reduceEqDiff, Nat.zero_ne_one, Nat.one_ne_zero, ne_eq, not_true_eq_false, not_false_eq_true, List.append_assoc, List.cons_append, List.nil_append, List.lookup_cons, List.lookup_nil, Nat.reduceBEq, beq_self_eq_true, Bool.and_true, Bool.true_and, Bool.false_and, Bool.and_false]
  show optQ (some ((List.range 4).map fun i => D.int (0 + (i : Nat)))) _
  rw [optQ_some]
  have hint : ∀ (i : Nat) (x : D), ((List.range 4).map fun i => D.int (0 + (i : Nat)))[i]? = some x → x = .int i ∧ i < 4 := fun i x hx => by
    have hlt := (List.getElem?_eq_some_iff.mp hx).1
    have hlt : i < 4 := by simpa using hlt
    rw [List.getElem?_map, List.getElem?_range hlt] at hx
    cases hx
    exact ⟨by simp, hlt⟩
  have hlen : ((List.range 4).map fun i => D.int (0 + (i : Nat))).length = 4 := by simp
  generalize ((List.range 4).map fun i => D.int (0 + (i : Nat))) = items at hint hlen ⊢
  refine wp_forF (LI F o1 good c R L p cc h1 r u rs.length) ?_ (fun _ _ _ _ => rfl) ?_ ?_
  · exact ⟨row, u, rs, h1, r, none, rfl, rfl, hrs, rfl, by omega, h10, rfl, Int.le_refl _, fun _ => rfl, fun z => by omega⟩
  · rintro i x ρ S hx ⟨row', u', rs', h', r', t4, rfl, rfl, hrs', hl', hi, h0', he, hrr, hz, hn⟩
    obtain ⟨rfl, hi4⟩ := hint i x hx
    simp only [we_var, we_non, we_bl, we_int, we_str, we_glb, ws_nil, ws_cons, we_tup, we_lst, we_bin, we_neg, we_cmp, we_chain, we_and1, we_or1, we_and, we_or, we_not, we_ite, we_idx, wo_none, wo_some, we_slc, we_attr, we_call, we_meth, we_make, we_makek, wmake, we_blt, we_bm, we_isi, we_comp, wf_nil, wf_one, wt_tru, wi_of, wi_range, wi_enum, wg_name, wg_tup, wg_nil, wg_cons, optQ_some, optQ_if, optQ_map, optQ_bind, tst_bl, tst_non, tst_int, b_add, b_sub, b_mul, b_fdiv, b_mod, b_pow, c_lt, c_le, c_gt, c_ge, c_eqI, c_neI, c_isI, c_notI, c_isN, c_notN, i_ii, i_ib, n_i, d_i, l_min, l_max, x_ref, x_new, x_tup, s_new, s_tup, y_new, at_0, at_1, at_2, mat_int, mat_bl, mat_str, mat_non, mat_ref, mats_nil, mats_cons, mat_tup, List.getElem?_cons_zero, List.getElem?_cons_succ, List.set_cons_zero, List.set_cons_succ, decide_eq_true_eq, decide_eq_false_iff_not, wp_ok, true_implies, false_implies, reduceCtorEq, and_true, true_and, Bool.not_true, Bool.not_false, putA, List.length_nil, List.length_cons, List.set_set, reduceIte, Nat.reduceEqDiff, Nat.zero_ne_one, Nat.one_ne_zero, ne_eq, not_true_eq_false, not_false_eq_true, List.append_assoc, List.cons_append, List.nil_append, List.lookup_cons, List.lookup_nil, Nat.reduceBEq, beq_self_eq_true, Bool.and_true, Bool.true_and, Bool.false_and, Bool.and_false]
    refine wp_cons (wp_S_ite ?_)
    simp only [we_var, we_non, we_bl, we_int, we_str, we_glb, ws_nil, ws_cons, we_tup, we_lst, we_bin, we_neg, we_cmp, we_chain, we_and1, we_or1, we_and, we_or, we_not, we_ite, we_idx, wo_none, wo_some, we_slc, we_attr, we_call, we_meth, we_make, we_makek, wmake, we_blt, we_bm, we_isi, we_comp, wf_nil, wf_one, wt_tru, wi_of, wi_range, wi_enum, wg_name, wg_tup, wg_nil, wg_cons, optQ_some, optQ_if, optQ_map, optQ_bind, tst_bl, tst_non, tst_int, b_add, b_sub, b_mul, b_fdiv, b_mod, b_pow, c_lt, c_le, c_gt, c_ge, c_eqI, c_neI, c_isI, c_notI, c_isN, c_notN, i_ii, i_ib, n_i, d_i, l_min, l_max, x_ref, x_new, x_tup, s_new, s_tup, y_new, at_0, at_1, at_2, mat_int, mat_bl, mat_str, mat_non, mat_ref, mats_nil, mats_cons, mat_tup, List.getElem?_cons_zero, List.getElem?_cons_succ, List.set_cons_zero, List.set_cons_succ, decide_eq_true_eq, decide_eq_false_iff_not, wp_ok, rcG (f := 17) rfl, true_implies, false_implies, reduceCtorEq, and_true, true_and, Bool.not_true, Bool.not_false, putA, List.length_nil, List.length_cons, List.set_set, reduceIte, Nat.reduceEqDiff, Nat.zero_ne_one, Nat.one_ne_zero, ne_eq, not_true_eq_false, not_false_eq_true, List.append_assoc, List.cons_append, List.nil_append, List.lookup_cons, List.lookup_nil, Nat.reduceBEq, beq_self_eq_true, Bool.and_true, Bool.true_and, Bool.false_and, Bool.and_false]
    refine state_ok ?_
    simp only [we_var, we_non, we_bl, we_int, we_str, we_glb, ws_nil, ws_cons, we_tup, we_lst, we_bin, we_neg, we_cmp, we_chain, we_and1, we_or1, we_and, we_or, we_not, we_ite, we_idx, wo_none, wo_some, we_slc, we_attr, we_call, we_meth, we_make, we_makek, wmake, we_blt, we_bm, we_isi, we_comp, wf_nil, wf_one, wt_tru, wi_of, wi_range, wi_enum, wg_name, wg_tup, wg_nil, wg_cons, optQ_some, optQ_if, optQ_map, optQ_bind, tst_bl, tst_non, tst_int, b_add, b_sub, b_mul, b_fdiv, b_mod, b_pow, c_lt, c_le, c_gt, c_ge, c_eqI, c_neI, c_isI, c_notI, c_isN, c_notN, i_ii, i_ib, n_i, d_i, l_min, l_max, x_ref, x_new, x_tup, s_new, s_tup, y_new, at_0, at_1, at_2, mat_int, mat_bl, mat_str, mat_non, mat_ref, mats_nil, mats_cons, mat_tup, List.getElem?_cons_zero, List.getElem?_cons_succ, List.set_cons_zero, List.set_cons_succ, decide_eq_true_eq, decide_eq_false_iff_not, wp_ok, c_eqS, true_implies, false_implies, reduceCtorEq, and_true, true_and, Bool.not_true, Bool.not_false, putA, List.length_nil, List.length_cons, List.set_set, reduceIte, Nat.reduceEqDiff, Nat.zero_ne_one, Nat.one_ne_zero, ne_eq, not_true_eq_false, not_false_eq_true, List.append_assoc, List.cons_append, List.nil_append, List.lookup_cons, List.lookup_nil, Nat.reduceBEq, beq_self_eq_true, Bool.and_true, Bool.true_and, Bool.false_and, Bool.and_false]
    refine ⟨fun hs => ?_, fun hs => ?_⟩
    · -- shut
      have rs0 : Res good u u' c R i := by
        by_cases i0 : i = 0
        · subst i0
          have := hz rfl
          subst this
          exact ⟨⟨fun _ => hs, fun _ => rfl⟩, fun _ z => absurd hs z, fun _ => rfl, fun _ z => by rw [hs] at z; exact absurd z (by decide), .inr (.inl rfl)⟩
        · obtain ⟨n1, n2, n3, n4⟩ := hn (by omega)
          refine ⟨⟨fun z => by omega, fun z => absurd z n2⟩, fun z => (by rw [n1] at z; cases z), fun z => absurd z n2, fun _ z => ?_, ?_⟩
          · obtain ⟨q1, q2⟩ := n4 z
            exact ⟨by omega, q2⟩
          · rcases n3 with q | q
            · exact .inl q
            · exact .inr (.inr ⟨n1, q⟩)
      refine ⟨fun _ => ?_, fun z => absurd hs z⟩
      refine wp_cons (wp_S_ret ?_)
      simp only [we_var, we_non, we_bl, we_int, we_str, we_glb, ws_nil, ws_cons, we_tup, we_lst, we_bin, we_neg, we_cmp, we_chain, we_and1, we_or1, we_and, we_or, we_not, we_ite, we_idx, wo_none, wo_some, we_slc, we_attr, we_call, we_meth, we_make, we_makek, wmake, we_blt, we_bm, we_isi, we_comp, wf_nil, wf_one, wt_tru, wi_of, wi_range, wi_enum, wg_name, wg_tup, wg_nil, wg_cons, optQ_some, optQ_if, optQ_map, optQ_bind, tst_bl, tst_non, tst_int, b_add, b_sub, b_mul, b_fdiv, b_mod, b_pow, c_lt, c_le, c_gt, c_ge, c_eqI, c_neI, c_isI, c_notI, c_isN, c_notN, i_ii, i_ib, n_i, d_i, l_min, l_max, x_ref, x_new, x_tup, s_new, s_tup, y_new, at_0, at_1, at_2, mat_int, mat_bl, mat_str, mat_non, mat_ref, mats_nil, mats_cons, mat_tup, List.getElem?_cons_zero, List.getElem?_cons_succ, List.set_cons_zero, List.set_cons_succ, decide_eq_true_eq, decide_eq_false_iff_not, wp_ok, true_implies, false_implies, reduceCtorEq, and_true, true_and, Bool.not_true, Bool.not_false, putA, List.length_nil, List.length_cons, List.set_set, reduceIte, Nat.reduceEqDiff, Nat.zero_ne_one, Nat.one_ne_zero, ne_eq, not_true_eq_false, not_false_eq_true, List.append_assoc, List.cons_append, List.nil_append, List.lookup_cons, List.lookup_nil, Nat.reduceBEq, beq_self_eq_true, Bool.and_true, Bool.true_and, Bool.false_and, Bool.and_false]
      exact ret_q (hQ _ _ _ _ _ _ rs0 hrs' (by omega) h0' he hrr)
    · -- not shut
      have rs1 : 0 < i → Res good u u' c R i := fun i0 => by
        obtain ⟨n1, n2, n3, n4⟩ := hn i0
        refine ⟨⟨fun z => by omega, fun z => absurd z n2⟩, fun z => (by rw [n1] at z; cases z), fun z => absurd z n2, fun _ z => ?_, ?_⟩
        · obtain ⟨q1, q2⟩ := n4 z
          exact ⟨by omega, q2⟩
        · rcases n3 with q | q
          · exact .inl q
          · exact .inr (.inr ⟨n1, q⟩)
      -- an attempt goes through
      have go : ∀ (h' r' : Int), 0 ≤ h' → h' + p * r' = h1 + p * r → r ≤ r' → wp (evalSs P (sm P (d + 3)) [.expr (.meth (.var 0) 1 18 15 []), .expr (.meth (.var 0) 1 19 16 [(.var 2)]), .set 3 (.bin .add (.var 3) (.int 1)), .ite (.var 2) [.ret (.var 3)] []]
          [some (.ref 2), some (.ref 4), some (.bl good), some (.int (i : Nat)), some (.int (i : Nat))] [F, o1, gt L R c row' u' false, .lst rs', bud 10 p h' (cc + 1) r'])
          (fun r_1 S2 => match r_1.1 with
            | .nx => wp (turnEnd none [F, o1, gt L R c row' u' false, .lst rs', bud 10 p h' (cc + 1) r'] r_1.2 S2) (LI F o1 good c R L p cc h1 r u rs.length (i + 1))
            | .ct => False
            | .bk => False
            | .rt x => ∃ (row' : Int) (u' : Option Int) (rs' : List D) (f : Int), x = .int f ∧ S2 = [F, o1, gt L R c row' u' false, .lst rs', bud 10 p h' (cc + 1) r'] ∧ Res good u u' c R f ∧ RowsOk rs' ∧ rs'.length ≤ rs.length + 8) := by
        intro h' r' h0' he hrr
        refine wp_cons (wp_S_expr ?_)
        simp only [we_var, we_non, we_bl, we_int, we_str, we_glb, ws_nil, ws_cons, we_tup, we_lst, we_bin, we_neg, we_cmp, we_chain, we_and1, we_or1, we_and, we_or, we_not, we_ite, we_idx, wo_none, wo_some, we_slc, we_attr, we_call, we_meth, we_make, we_makek, wmake, we_blt, we_bm, we_isi, we_comp, wf_nil, wf_one, wt_tru, wi_of, wi_range, wi_enum, wg_name, wg_tup, wg_nil, wg_cons, optQ_some, optQ_if, optQ_map, optQ_bind, tst_bl, tst_non, tst_int, b_add, b_sub, b_mul, b_fdiv, b_mod, b_pow, c_lt, c_le, c_gt, c_ge, c_eqI, c_neI, c_isI, c_notI, c_isN, c_notN, i_ii, i_ib, n_i, d_i, l_min, l_max, x_ref, x_new, x_tup, s_new, s_tup, y_new, at_0, at_1, at_2, mat_int, mat_bl, mat_str, mat_non, mat_ref, mats_nil, mats_cons, mat_tup, List.getElem?_cons_zero, List.getElem?_cons_succ, List.set_cons_zero, List.set_cons_succ, decide_eq_true_eq, decide_eq_false_iff_not, wp_ok, rcG (f := 18) rfl, true_implies, false_implies, reduceCtorEq, and_true, true_and, Bool.not_true, Bool.not_false, putA, List.length_nil, List.length_cons, List.set_set, reduceIte, Nat.reduceEqDiff, Nat.zero_ne_one, Nat.one_ne_zero, ne_eq, not_true_eq_false, not_false_eq_true, List.append_assoc, List.cons_append, List.nil_append, List.lookup_cons, List.lookup_nil, Nat.reduceBEq, beq_self_eq_true, Bool.and_true, Bool.true_and, Bool.false_and, Bool.and_false]
        refine ask_ok hs (by omega) ?_
        refine wp_cons (wp_S_expr ?_)
        simp only [we_var, we_non, we_bl, we_int, we_str, we_glb, ws_nil, ws_cons, we_tup, we_lst, we_bin, we_neg, we_cmp, we_chain, we_and1, we_or1, we_and, we_or, we_not, we_ite, we_idx, wo_none, wo_some, we_slc, we_attr, we_call, we_meth, we_make, we_makek, wmake, we_blt, we_bm, we_isi, we_comp, wf_nil, wf_one, wt_tru, wi_of, wi_range, wi_enum, wg_name, wg_tup, wg_nil, wg_cons, optQ_some, optQ_if, optQ_map, optQ_bind, tst_bl, tst_non, tst_int, b_add, b_sub, b_mul, b_fdiv, b_mod, b_pow, c_lt, c_le, c_gt, c_ge, c_eqI, c_neI, c_isI, c_notI, c_isN, c_notN, i_ii, i_ib, n_i, d_i, l_min, l_max, x_ref, x_new, x_tup, s_new, s_tup, y_new, at_0, at_1, at_2, mat_int, mat_bl, mat_str, mat_non, mat_ref, mats_nil, mats_cons, mat_tup, List.getElem?_cons_zero, List.getElem?_cons_succ, List.set_cons_zero, List.set_cons_succ, decide_eq_true_eq, decide_eq_false_iff_not, wp_ok, rcG (f := 19) rfl, true_implies, false_implies, reduceCtorEq, and_true, true_and, Bool.not_true, Bool.not_false, putA, List.length_nil, List.length_cons, List.set_set, reduceIte, Nat.reduceEqDiff, Nat.zero_ne_one, Nat.one_ne_zero, ne_eq, not_true_eq_false, not_false_eq_true, List.append_assoc, List.cons_append, List.nil_append, List.lookup_cons, List.lookup_nil, Nat.reduceBEq, beq_self_eq_true, Bool.and_true, Bool.true_and, Bool.false_and, Bool.and_false]
        refine end_ok (by rw [List.length_append]; simp; omega) fun row2 s2 hs2 => ?_
        refine wp_cons (wp_S_set ?_)
        simp only [we_var, we_non, we_bl, we_int, we_str, we_glb, ws_nil, ws_cons, we_tup, we_lst, we_bin, we_neg, we_cmp, we_chain, we_and1, we_or1, we_and, we_or, we_not, we_ite, we_idx, wo_none, wo_some, we_slc, we_attr, we_call, we_meth, we_make, we_makek, wmake, we_blt, we_bm, we_isi, we_comp, wf_nil, wf_one, wt_tru, wi_of, wi_range, wi_enum, wg_name, wg_tup, wg_nil, wg_cons, optQ_some, optQ_if, optQ_map, optQ_bind, tst_bl, tst_non, tst_int, b_add, b_sub, b_mul, b_fdiv, b_mod, b_pow, c_lt, c_le, c_gt, c_ge, c_eqI, c_neI, c_isI, c_notI, c_isN, c_notN, i_ii, i_ib, n_i, d_i, l_min, l_max, x_ref, x_new, x_tup, s_new, s_tup, y_new, at_0, at_1, at_2, mat_int, mat_bl, mat_str, mat_non, mat_ref, mats_nil, mats_cons, mat_tup, List.getElem?_cons_zero, List.getElem?_cons_succ, List.set_cons_zero, List.set_cons_succ, decide_eq_true_eq, decide_eq_false_iff_not, wp_ok, true_implies, false_implies, reduceCtorEq, and_true, true_and, Bool.not_true, Bool.not_false, putA, List.length_nil, List.length_cons, List.set_set, reduceIte, Nat.reduceEqDiff, Nat.zero_ne_one, Nat.one_ne_zero, ne_eq, not_true_eq_false, not_false_eq_true, List.append_assoc, List.cons_append, List.nil_append, List.lookup_cons, List.lookup_nil, Nat.reduceBEq, beq_self_eq_true, Bool.and_true, Bool.true_and, Bool.false_and, Bool.and_false]
        have hr2 := hrs'.add c hs2
        have hl2 : (rs' ++ [D.tup [.int c, .str "ask"]] ++ [D.tup [.int c, .str s2]]).length = rs.length + 2 * (i + 1) := by
          simp only [List.length_append, List.length_cons, List.length_nil]; omega
        simp only [List.append_assoc, List.cons_append, List.nil_append] at hr2 hl2
        refine wp_cons (wp_S_ite ?_)
        simp only [we_var, we_non, we_bl, we_int, we_str, we_glb, ws_nil, ws_cons, we_tup, we_lst, we_bin, we_neg, we_cmp, we_chain, we_and1, we_or1, we_and, we_or, we_not, we_ite, we_idx, wo_none, wo_some, we_slc, we_attr, we_call, we_meth, we_make, we_makek, wmake, we_blt, we_bm, we_isi, we_comp, wf_nil, wf_one, wt_tru, wi_of, wi_range, wi_enum, wg_name, wg_tup, wg_nil, wg_cons, optQ_some, optQ_if, optQ_map, optQ_bind, tst_bl, tst_non, tst_int, b_add, b_sub, b_mul, b_fdiv, b_mod, b_pow, c_lt, c_le, c_gt, c_ge, c_eqI, c_neI, c_isI, c_notI, c_isN, c_notN, i_ii, i_ib, n_i, d_i, l_min, l_max, x_ref, x_new, x_tup, s_new, s_tup, y_new, at_0, at_1, at_2, mat_int, mat_bl, mat_str, mat_non, mat_ref, mats_nil, mats_cons, mat_tup, List.getElem?_cons_zero, List.getElem?_cons_succ, List.set_cons_zero, List.set_cons_succ, decide_eq_true_eq, decide_eq_false_iff_not, wp_ok]
        cases hg : good with
        | true =>
          subst hg
          have i0 : i = 0 := by
            apply Classical.byContradiction
            intro z
            have := (hn (by omega)).1
            cases this
          subst i0
          have := hz rfl
          subst this
          refine ⟨fun _ => ?_, fun z => by cases z⟩
          refine wp_cons (wp_S_ret ?_)
          simp only [we_var, we_non, we_bl, we_int, we_str, we_glb, ws_nil, ws_cons, we_tup, we_lst, we_bin, we_neg, we_cmp, we_chain, we_and1, we_or1, we_and, we_or, we_not, we_ite, we_idx, wo_none, wo_some, we_slc, we_attr, we_call, we_meth, we_make, we_makek, wmake, we_blt, we_bm, we_isi, we_comp, wf_nil, wf_one, wt_tru, wi_of, wi_range, wi_enum, wg_name, wg_tup, wg_nil, wg_cons, optQ_some, optQ_if, optQ_map, optQ_bind, tst_bl, tst_non, tst_int, b_add, b_sub, b_mul, b_fdiv, b_mod, b_pow, c_lt, c_le, c_gt, c_ge, c_eqI, c_neI, c_isI, c_notI, c_isN, c_notN, i_ii, i_ib, n_i, d_i, l_min, l_max, x_ref, x_new, x_tup, s_new, s_tup, y_new, at_0, at_1, at_2, mat_int, mat_bl, mat_str, mat_non, mat_ref, mats_nil, mats_cons, mat_tup, List.getElem?_cons_zero, List.getElem?_cons_succ, List.set_cons_zero, List.set_cons_succ, decide_eq_true_eq, decide_eq_false_iff_not, wp_ok]
          refine ⟨_, _, _, _, rfl, rfl, ⟨⟨fun z => ?_, fun z => absurd z hs⟩, fun _ _ => ⟨rfl, rfl⟩, fun z => absurd z hs, fun z => (by cases z), .inl rfl⟩, hr2, by omega⟩
          exact absurd z (by decide)
        | false =>
          subst hg
          refine ⟨fun z => (by cases z), fun _ => wp_nil (wp_nil (wp_turn0 ?_))⟩
          refine ⟨_, _, _, h', r', _, rfl, rfl, hr2, hl2, by omega, h0', he, hrr, fun z => by omega, fun _ => ⟨rfl, ?_, ?_, ?_⟩⟩
          · by_cases i0 : i = 0
            · have := hz i0
              subst this
              exact hs
            · exact (hn (by omega)).2.1
          · unfold endU
            rw [if_neg (by simp)]
            by_cases q : u' ≠ none ∨ L ≤ row' + 1
            · rw [if_pos q]; exact .inr rfl
            · rw [if_neg q]; exact .inl rfl
          · intro z
            have i0 : i = 0 := by
              apply Classical.byContradiction
              intro i0
              obtain ⟨_, _, _, n4⟩ := hn (by omega)
              obtain ⟨_, q⟩ := n4 z
              subst q
              exact hs (stS_shut.mpr ⟨_, rfl, by omega⟩)
            have := hz i0
            subst this
            refine ⟨by omega, ?_⟩
            obtain ⟨v, e, _⟩ := stS_ajar.mp z
            unfold endU
            rw [if_neg (by simp), if_pos (.inl (by rw [e]; simp))]
      have next : ∀ (h'' r'' : Int), 0 ≤ h'' → h'' + p * r'' = h1 + p * r → r ≤ r'' → wp (evalSs P (sm P (d + 3)) [.expr (.meth (.var 0) 1 18 15 []), .expr (.meth (.var 0) 1 19 16 [(.var 2)]), .set 3 (.bin .add (.var 3) (.int 1)), .ite (.var 2) [.ret (.var 3)] []]
          [some (.ref 2), some (.ref 4), some (.bl good), some (.int (i : Nat)), some (.int (i : Nat))] [F, o1, gt L R c row' u' false, .lst rs', bud 10 p h'' (cc + 1) r''])
          (fun r_1 S2 => match r_1.1 with
            | .nx => wp (turnEnd none [F, o1, gt L R c row' u' false, .lst rs', bud 10 p h' (cc + 1) r'] r_1.2 S2) (LI F o1 good c R L p cc h1 r u rs.length (i + 1))
            | .ct => wp (turnEnd none [F, o1, gt L R c row' u' false, .lst rs', bud 10 p h' (cc + 1) r'] r_1.2 S2) (LI F o1 good c R L p cc h1 r u rs.length (i + 1))
            | .bk => wp (evalSs P (sm P (d + 3)) [.ret (.var 3)] r_1.2 S2) (retQ false [F, o1, gt L R c row u false, .lst rs, bud 10 p h cc r] Q)
            | .rt x => retQ false [F, o1, gt L R c row u false, .lst rs, bud 10 p h cc r] Q (.rt x, r_1.2) S2) := fun h'' r'' q1 q2 q3 => by
        refine wp_mono (go h'' r'' q1 q2 q3) fun r_1 S2 z => ?_
        obtain ⟨fl, ρ⟩ := r_1
        cases fl with
        | nx => exact z
        | ct => exact z.elim
        | bk => exact z.elim
        | rt x =>
          obtain ⟨row2, u2, rs2, f, rfl, rfl, z1, z2, z3⟩ := z
          exact ret_q (hQ _ _ _ _ _ _ z1 z2 z3 q1 q2 q3)
      refine ⟨fun hi0 => ?_, fun hi0 => ⟨fun z => absurd z hi0, fun _ => ?_⟩⟩
      · simp only [rcB (f := 13) rfl, optQ_some]
        refine may_ok ?_
        simp only [we_var, we_non, we_bl, we_int, we_str, we_glb, ws_nil, ws_cons, we_tup, we_lst, we_bin, we_neg, we_cmp, we_chain, we_and1, we_or1, we_and, we_or, we_not, we_ite, we_idx, wo_none, wo_some, we_slc, we_attr, we_call, we_meth, we_make, we_makek, wmake, we_blt, we_bm, we_isi, we_comp, wf_nil, wf_one, wt_tru, wi_of, wi_range, wi_enum, wg_name, wg_tup, wg_nil, wg_cons, optQ_some, optQ_if, optQ_map, optQ_bind, tst_bl, tst_non, tst_int, b_add, b_sub, b_mul, b_fdiv, b_mod, b_pow, c_lt, c_le, c_gt, c_ge, c_eqI, c_neI, c_isI, c_notI, c_isN, c_notN, i_ii, i_ib, n_i, d_i, l_min, l_max, x_ref, x_new, x_tup, s_new, s_tup, y_new, at_0, at_1, at_2, mat_int, mat_bl, mat_str, mat_non, mat_ref, mats_nil, mats_cons, mat_tup, List.getElem?_cons_zero, List.getElem?_cons_succ, List.set_cons_zero, List.set_cons_succ, decide_eq_true_eq, decide_eq_false_iff_not, wp_ok, Bool.not_eq_true', Bool.not_eq_false', true_implies, false_implies, reduceCtorEq, and_true, true_and, Bool.not_true, Bool.not_false, putA, List.length_nil, List.length_cons, List.set_set, reduceIte, Nat.reduceEqDiff, Nat.zero_ne_one, Nat.one_ne_zero, ne_eq, not_true_eq_false, not_false_eq_true, List.append_assoc, List.cons_append, List.nil_append, List.lookup_cons, List.lookup_nil, Nat.reduceBEq, beq_self_eq_true, Bool.and_true, Bool.true_and, Bool.false_and, Bool.and_false]
        refine ⟨fun hno => ?_, fun hyes => ?_⟩
        · refine wp_cons (wp_S_ret ?_)
          simp only [we_var, we_non, we_bl, we_int, we_str, we_glb, ws_nil, ws_cons, we_tup, we_lst, we_bin, we_neg, we_cmp, we_chain, we_and1, we_or1, we_and, we_or, we_not, we_ite, we_idx, wo_none, wo_some, we_slc, we_attr, we_call, we_meth, we_make, we_makek, wmake, we_blt, we_bm, we_isi, we_comp, wf_nil, wf_one, wt_tru, wi_of, wi_range, wi_enum, wg_name, wg_tup, wg_nil, wg_cons, optQ_some, optQ_if, optQ_map, optQ_bind, tst_bl, tst_non, tst_int, b_add, b_sub, b_mul, b_fdiv, b_mod, b_pow, c_lt, c_le, c_gt, c_ge, c_eqI, c_neI, c_isI, c_notI, c_isN, c_notN, i_ii, i_ib, n_i, d_i, l_min, l_max, x_ref, x_new, x_tup, s_new, s_tup, y_new, at_0, at_1, at_2, mat_int, mat_bl, mat_str, mat_non, mat_ref, mats_nil, mats_cons, mat_tup, List.getElem?_cons_zero, List.getElem?_cons_succ, List.set_cons_zero, List.set_cons_succ, decide_eq_true_eq, decide_eq_false_iff_not, wp_ok, true_implies, false_implies, reduceCtorEq, and_true, true_and, Bool.not_true, Bool.not_false, putA, List.length_nil, List.length_cons, List.set_set, reduceIte, Nat.reduceEqDiff, Nat.zero_ne_one, Nat.one_ne_zero, ne_eq, not_true_eq_false, not_false_eq_true, List.append_assoc, List.cons_append, List.nil_append, List.lookup_cons, List.lookup_nil, Nat.reduceBEq, beq_self_eq_true, Bool.and_true, Bool.true_and, Bool.false_and, Bool.and_false]
          exact ret_q (hQ _ _ _ _ _ _ (rs1 (by omega)) hrs' (by omega) h0' he hrr)
        · refine wp_nil (wp_cons (wp_S_ite ?_))
          simp only [we_var, we_non, we_bl, we_int, we_str, we_glb, ws_nil, ws_cons, we_tup, we_lst, we_bin, we_neg, we_cmp, we_chain, we_and1, we_or1, we_and, we_or, we_not, we_ite, we_idx, wo_none, wo_some, we_slc, we_attr, we_call, we_meth, we_make, we_makek, wmake, we_blt, we_bm, we_isi, we_comp, wf_nil, wf_one, wt_tru, wi_of, wi_range, wi_enum, wg_name, wg_tup, wg_nil, wg_cons, optQ_some, optQ_if, optQ_map, optQ_bind, tst_bl, tst_non, tst_int, b_add, b_sub, b_mul, b_fdiv, b_mod, b_pow, c_lt, c_le, c_gt, c_ge, c_eqI, c_neI, c_isI, c_notI, c_isN, c_notN, i_ii, i_ib, n_i, d_i, l_min, l_max, x_ref, x_new, x_tup, s_new, s_tup, y_new, at_0, at_1, at_2, mat_int, mat_bl, mat_str, mat_non, mat_ref, mats_nil, mats_cons, mat_tup, List.getElem?_cons_zero, List.getElem?_cons_succ, List.set_cons_zero, List.set_cons_succ, decide_eq_true_eq, decide_eq_false_iff_not, wp_ok, true_implies, false_implies, reduceCtorEq, and_true, true_and, Bool.not_true, Bool.not_false, putA, List.length_nil, List.length_cons, List.set_set, reduceIte, Nat.reduceEqDiff, Nat.zero_ne_one, Nat.one_ne_zero, ne_eq, not_true_eq_false, not_false_eq_true, List.append_assoc, List.cons_append, List.nil_append, List.lookup_cons, List.lookup_nil, Nat.reduceBEq, beq_self_eq_true, Bool.and_true, Bool.true_and, Bool.false_and, Bool.and_false]
          refine ⟨fun _ => ?_, fun z => absurd hi0 z⟩
          refine wp_cons (wp_S_expr ?_)
          simp only [we_var, we_non, we_bl, we_int, we_str, we_glb, ws_nil, ws_cons, we_tup, we_lst, we_bin, we_neg, we_cmp, we_chain, we_and1, we_or1, we_and, we_or, we_not, we_ite, we_idx, wo_none, wo_some, we_slc, we_attr, we_call, we_meth, we_make, we_makek, wmake, we_blt, we_bm, we_isi, we_comp, wf_nil, wf_one, wt_tru, wi_of, wi_range, wi_enum, wg_name, wg_tup, wg_nil, wg_cons, optQ_some, optQ_if, optQ_map, optQ_bind, tst_bl, tst_non, tst_int, b_add, b_sub, b_mul, b_fdiv, b_mod, b_pow, c_lt, c_le, c_gt, c_ge, c_eqI, c_neI, c_isI, c_notI, c_isN, c_notN, i_ii, i_ib, n_i, d_i, l_min, l_max, x_ref, x_new, x_tup, s_new, s_tup, y_new, at_0, at_1, at_2, mat_int, mat_bl, mat_str, mat_non, mat_ref, mats_nil, mats_cons, mat_tup, List.getElem?_cons_zero, List.getElem?_cons_succ, List.set_cons_zero, List.set_cons_succ, decide_eq_true_eq, decide_eq_false_iff_not, wp_ok, rcB (f := 14) rfl, true_implies, false_implies, reduceCtorEq, and_true, true_and, Bool.not_true, Bool.not_false, putA, List.length_nil, List.length_cons, List.set_set, reduceIte, Nat.reduceEqDiff, Nat.zero_ne_one, Nat.one_ne_zero, ne_eq, not_true_eq_false, not_false_eq_true, List.append_assoc, List.cons_append, List.nil_append, List.lookup_cons, List.lookup_nil, Nat.reduceBEq, beq_self_eq_true, Bool.and_true, Bool.true_and, Bool.false_and, Bool.and_false]
          refine again_ok hyes ?_
          exact wp_nil (next _ _ (by omega) (by rw [Int.mul_add, Int.mul_one]; omega) (by omega))
      · refine wp_nil (wp_cons (wp_S_ite ?_))
        simp only [we_var, we_non, we_bl, we_int, we_str, we_glb, ws_nil, ws_cons, we_tup, we_lst, we_bin, we_neg, we_cmp, we_chain, we_and1, we_or1, we_and, we_or, we_not, we_ite, we_idx, wo_none, wo_some, we_slc, we_attr, we_call, we_meth, we_make, we_makek, wmake, we_blt, we_bm, we_isi, we_comp, wf_nil, wf_one, wt_tru, wi_of, wi_range, wi_enum, wg_name, wg_tup, wg_nil, wg_cons, optQ_some, optQ_if, optQ_map, optQ_bind, tst_bl, tst_non, tst_int, b_add, b_sub, b_mul, b_fdiv, b_mod, b_pow, c_lt, c_le, c_gt, c_ge, c_eqI, c_neI, c_isI, c_notI, c_isN, c_notN, i_ii, i_ib, n_i, d_i, l_min, l_max, x_ref, x_new, x_tup, s_new, s_tup, y_new, at_0, at_1, at_2, mat_int, mat_bl, mat_str, mat_non, mat_ref, mats_nil, mats_cons, mat_tup, List.getElem?_cons_zero, List.getElem?_cons_succ, List.set_cons_zero, List.set_cons_succ, decide_eq_true_eq, decide_eq_false_iff_not, wp_ok, true_implies, false_implies, reduceCtorEq, and_true, true_and, Bool.not_true, Bool.not_false, putA, List.length_nil, List.length_cons, List.set_set, reduceIte, Nat.reduceEqDiff, Nat.zero_ne_one, Nat.one_ne_zero, ne_eq, not_true_eq_false, not_false_eq_true, List.append_assoc, List.cons_append, List.nil_append, List.lookup_cons, List.lookup_nil, Nat.reduceBEq, beq_self_eq_true, Bool.and_true, Bool.true_and, Bool.false_and, Bool.and_false]
        exact ⟨fun z => absurd z hi0, fun _ => wp_nil (next _ _ h0' he hrr)⟩
  · rintro ρ S ⟨row', u', rs', h', r', t4, rfl, rfl, hrs', hl', hi, h0', he, hrr, hz, hn⟩
    refine wp_cons (wp_S_ret ?_)
    simp only [we_var, we_non, we_bl, we_int, we_str, we_glb, ws_nil, ws_cons, we_tup, we_lst, we_bin, we_neg, we_cmp, we_chain, we_and1, we_or1, we_and, we_or, we_not, we_ite, we_idx, wo_none, wo_some, we_slc, we_attr, we_call, we_meth, we_make, we_makek, wmake, we_blt, we_bm, we_isi, we_comp, wf_nil, wf_one, wt_tru, wi_of, wi_range, wi_enum, wg_name, wg_tup, wg_nil, wg_cons, optQ_some, optQ_if, optQ_map, optQ_bind, tst_bl, tst_non, tst_int, b_add, b_sub, b_mul, b_fdiv, b_mod, b_pow, c_lt, c_le, c_gt, c_ge, c_eqI, c_neI, c_isI, c_notI, c_isN, c_notN, i_ii, i_ib, n_i, d_i, l_min, l_max, x_ref, x_new, x_tup, s_new, s_tup, y_new, at_0, at_1, at_2, mat_int, mat_bl, mat_str, mat_non, mat_ref, mats_nil, mats_cons, mat_tup, List.getElem?_cons_zero, List.getElem?_cons_succ, List.set_cons_zero, List.set_cons_succ, decide_eq_true_eq, decide_eq_false_iff_not, wp_ok, true_implies, false_implies, reduceCtorEq, and_true, true_and, Bool.not_true, Bool.not_false, putA, List.length_nil, List.length_cons, List.set_set, reduceIte, Nat.reduceEqDiff, Nat.zero_ne_one, Nat.one_ne_zero, ne_eq, not_true_eq_false, not_false_eq_true, List.append_assoc, List.cons_append, List.nil_append, List.lookup_cons, List.lookup_nil, Nat.reduceBEq, beq_self_eq_true, Bool.and_true, Bool.true_and, Bool.false_and, Bool.and_false]
    obtain ⟨n1, n2, n3, n4⟩ := hn (by omega)
    exact ret_q (hQ _ _ _ _ _ _ (res_of (by omega) n1 n2 n3 n4) hrs' (by omega) h0' he hrr)
/-! ### a turn of the law -/
def body1 : List Nv.St := match b6 with
  | .forr _ _ b _ :: _ => match b with
    | [_, _, _, _, _, _, .forr _ _ c _, _, _] => c
    | _ => []
  | _ => []
def sB : Nv.St := .ite (.and [(.var 8), (.cmp .gt (.var 7) (.bin .add (.var 9) (.var 3))), (.cmp .ne (.meth (.var 5) 1 17 14 []) (.str "open"))]) [.ret (.bl false)] []
def sC : Nv.St := .ite (.and [(.not (.var 8)), (.cmp .eq (.var 11) (.str "ajar")), (.or [(.cmp .ne (.var 12) (.int 1)), (.cmp .ne (.meth (.var 5) 1 17 14 []) (.str "shut"))])]) [.ret (.bl false)] []
structure TI (F : O) (L R p : Int) (i : Nat) (ρ : AEnv) (S : Store) : Prop where
  ex : ∃ (o1 : O) (now since row h r : Int) (good : Bool) (u : Option Int) (rs : List D) (t10 t11 t12 : Option D), ρ = [some (.ref 0), some (.ref 1), some (.int L), some (.int R), some (.int p), some (.ref 2), some (.ref 4), some (.int now), some (.bl good), some (.int since), t10, t11, t12, none, none] ∧
    S = [F, o1, gt L R now row u false, .lst rs, bud 10 p h (i : Nat) r] ∧ BagOk (977000 + 10 + 2 * (i : Int)) o1 ∧ 0 ≤ now ∧ now ≤ 3 * (i : Int) ∧ RowsOk rs ∧ rs.length ≤ 8 * i ∧ 0 ≤ h ∧ 0 ≤ r ∧ h + p * r ≤ 10 + (i : Int) ∧
    (∀ v, u = some v → v ≤ now + R) ∧ (good = true → ∀ v, u = some v → v ≤ since + R) ∧ i ≤ 200
theorem turn_ok {i : Nat} {ρ : AEnv} {S : Store} {Q : Fl × AEnv → Store → Prop} (hR : 1 ≤ R ∧ R ≤ 20) (hp : 1 ≤ p ∧ p ≤ 4) (hi : i < 200) (I : TI F L R p i ρ S) (hQ : ∀ ρ' S', TI F L R p (i + 1) ρ' S' → Q (.nx, ρ') S') :
    wp (evalSs P (sm P 11) body1 (ρ.set 10 (some (.int (i : Nat)))) S) Q := by
  obtain ⟨o1, now, since, row, h, r, good, u, rs, t10, t11, t12, rfl, rfl, ho, n0, n1, hrs, hl, h0, r0, hc, hu, hu2, _⟩ := I
  unfold body1 b6
  simp only [List.set_cons_succ, List.set_cons_zero]
  refine wp_cons (wp_S_set ?_)
  simp only [we_var, we_non, we_bl, we_int, we_str, we_glb, ws_nil, ws_cons, we_tup, we_lst, we_bin, we_neg, we_cmp, we_chain, we_and1, we_or1, we_and, we_or, we_not, we_ite, we_idx, wo_none, wo_some, we_slc, we_attr, we_call, we_meth, we_make, we_makek, wmake, we_blt, we_bm, we_isi, we_comp, wf_nil, wf_one, wt_tru, wi_of, wi_range, wi_enum, wg_name, wg_tup, wg_nil, wg_cons, optQ_some, optQ_if, optQ_map, optQ_bind, tst_bl, tst_non, tst_int, b_add, b_sub, b_mul, b_fdiv, b_mod, b_pow, c_lt, c_le, c_gt, c_ge, c_eqI, c_neI, c_isI, c_notI, c_isN, c_notN, i_ii, i_ib, n_i, d_i, l_min, l_max, x_ref, x_new, x_tup, s_new, s_tup, y_new, at_0, at_1, at_2, mat_int, mat_bl, mat_str, mat_non, mat_ref, mats_nil, mats_cons, mat_tup, List.getElem?_cons_zero, List.getElem?_cons_succ, List.set_cons_zero, List.set_cons_succ, decide_eq_true_eq, decide_eq_false_iff_not, wp_ok, true_implies, false_implies, reduceCtorEq, and_true, true_and, Bool.not_true, Bool.not_false, putA, List.length_nil, List.length_cons, List.set_set, reduceIte, Nat.reduceEqDiff, Nat.zero_ne_one, Nat.one_ne_zero, ne_eq, not_true_eq_false, not_false_eq_true, List.append_assoc, List.cons_append, List.nil_append, List.lookup_cons, List.lookup_nil, Nat.reduceBEq, beq_self_eq_true, Bool.and_true, Bool.true_and, Bool.false_and, Bool.and_false]
  refine take_ok (i := 3) (fn := f3) rfl rfl rfl rfl rfl (S := [_, _, _, _, _]) (b := 1) rfl ho (by omega) (by decide) (by decide) fun t o2 t0 t1 ho => ?_
  simp only [we_var, we_non, we_bl, we_int, we_str, we_glb, ws_nil, ws_cons, we_tup, we_lst, we_bin, we_neg, we_cmp, we_chain, we_and1, we_or1, we_and, we_or, we_not, we_ite, we_idx, wo_none, wo_some, we_slc, we_attr, we_call, we_meth, we_make, we_makek, wmake, we_blt, we_bm, we_isi, we_comp, wf_nil, wf_one, wt_tru, wi_of, wi_range, wi_enum, wg_name, wg_tup, wg_nil, wg_cons, optQ_some, optQ_if, optQ_map, optQ_bind, tst_bl, tst_non, tst_int, b_add, b_sub, b_mul, b_fdiv, b_mod, b_pow, c_lt, c_le, c_gt, c_ge, c_eqI, c_neI, c_isI, c_notI, c_isN, c_notN, i_ii, i_ib, n_i, d_i, l_min, l_max, x_ref, x_new, x_tup, s_new, s_tup, y_new, at_0, at_1, at_2, mat_int, mat_bl, mat_str, mat_non, mat_ref, mats_nil, mats_cons, mat_tup, List.getElem?_cons_zero, List.getElem?_cons_succ, List.set_cons_zero, List.set_cons_succ, decide_eq_true_eq, decide_eq_false_iff_not, wp_ok, true_implies, false_implies, reduceCtorEq, and_true, true_and, Bool.not_true, Bool.not_false, putA, List.length_nil, List.length_cons, List.set_set, reduceIte, Nat.reduceEqDiff, Nat.zero_ne_one, Nat.one_ne_zero, ne_eq, not_true_eq_false, not_false_eq_true, List.append_assoc, List.cons_append, List.nil_append, List.lookup_cons, List.lookup_nil, Nat.reduceBEq, beq_self_eq_true, Bool.and_true, Bool.true_and, Bool.false_and, Bool.and_false]
  generalize hn : now + 1 + t = now2
  refine wp_cons (wp_S_expr ?_)
  simp only [we_var, we_non, we_bl, we_int, we_str, we_glb, ws_nil, ws_cons, we_tup, we_lst, we_bin, we_neg, we_cmp, we_chain, we_and1, we_or1, we_and, we_or, we_not, we_ite, we_idx, wo_none, wo_some, we_slc, we_attr, we_call, we_meth, we_make, we_makek, wmake, we_blt, we_bm, we_isi, we_comp, wf_nil, wf_one, wt_tru, wi_of, wi_range, wi_enum, wg_name, wg_tup, wg_nil, wg_cons, optQ_some, optQ_if, optQ_map, optQ_bind, tst_bl, tst_non, tst_int, b_add, b_sub, b_mul, b_fdiv, b_mod, b_pow, c_lt, c_le, c_gt, c_ge, c_eqI, c_neI, c_isI, c_notI, c_isN, c_notN, i_ii, i_ib, n_i, d_i, l_min, l_max, x_ref, x_new, x_tup, s_new, s_tup, y_new, at_0, at_1, at_2, mat_int, mat_bl, mat_str, mat_non, mat_ref, mats_nil, mats_cons, mat_tup, List.getElem?_cons_zero, List.getElem?_cons_succ, List.set_cons_zero, List.set_cons_succ, decide_eq_true_eq, decide_eq_false_iff_not, wp_ok, rcG (f := 16) rfl, true_implies, false_implies, reduceCtorEq, and_true, true_and, Bool.not_true, Bool.not_false, putA, List.length_nil, List.length_cons, List.set_set, reduceIte, Nat.reduceEqDiff, Nat.zero_ne_one, Nat.one_ne_zero, ne_eq, not_true_eq_false, not_false_eq_true, List.append_assoc, List.cons_append, List.nil_append, List.lookup_cons, List.lookup_nil, Nat.reduceBEq, beq_self_eq_true, Bool.and_true, Bool.true_and, Bool.false_and, Bool.and_false]
  refine goto_ok (by omega) (by omega) ?_
  refine wp_cons (wp_S_ite ?_)
  simp only [we_var, we_non, we_bl, we_int, we_str, we_glb, ws_nil, ws_cons, we_tup, we_lst, we_bin, we_neg, we_cmp, we_chain, we_and1, we_or1, we_and, we_or, we_not, we_ite, we_idx, wo_none, wo_some, we_slc, we_attr, we_call, we_meth, we_make, we_makek, wmake, we_blt, we_bm, we_isi, we_comp, wf_nil, wf_one, wt_tru, wi_of, wi_range, wi_enum, wg_name, wg_tup, wg_nil, wg_cons, optQ_some, optQ_if, optQ_map, optQ_bind, tst_bl, tst_non, tst_int, b_add, b_sub, b_mul, b_fdiv, b_mod, b_pow, c_lt, c_le, c_gt, c_ge, c_eqI, c_neI, c_isI, c_notI, c_isN, c_notN, i_ii, i_ib, n_i, d_i, l_min, l_max, x_ref, x_new, x_tup, s_new, s_tup, y_new, at_0, at_1, at_2, mat_int, mat_bl, mat_str, mat_non, mat_ref, mats_nil, mats_cons, mat_tup, List.getElem?_cons_zero, List.getElem?_cons_succ, List.set_cons_zero, List.set_cons_succ, decide_eq_true_eq, decide_eq_false_iff_not, wp_ok, true_implies, false_implies, reduceCtorEq, and_true, true_and, Bool.not_true, Bool.not_false, putA, List.length_nil, List.length_cons, List.set_set, reduceIte, Nat.reduceEqDiff, Nat.zero_ne_one, Nat.one_ne_zero, ne_eq, not_true_eq_false, not_false_eq_true, List.append_assoc, List.cons_append, List.nil_append, List.lookup_cons, List.lookup_nil, Nat.reduceBEq, beq_self_eq_true, Bool.and_true, Bool.true_and, Bool.false_and, Bool.and_false]
  refine take_ok (i := 3) (fn := f3) rfl rfl rfl rfl rfl (S := [_, _, _, _, _]) (b := 1) rfl ho (by omega) (by decide) (by decide) fun w o3 w0 w1 ho => ?_
  simp only [we_var, we_non, we_bl, we_int, we_str, we_glb, ws_nil, ws_cons, we_tup, we_lst, we_bin, we_neg, we_cmp, we_chain, we_and1, we_or1, we_and, we_or, we_not, we_ite, we_idx, wo_none, wo_some, we_slc, we_attr, we_call, we_meth, we_make, we_makek, wmake, we_blt, we_bm, we_isi, we_comp, wf_nil, wf_one, wt_tru, wi_of, wi_range, wi_enum, wg_name, wg_tup, wg_nil, wg_cons, optQ_some, optQ_if, optQ_map, optQ_bind, tst_bl, tst_non, tst_int, b_add, b_sub, b_mul, b_fdiv, b_mod, b_pow, c_lt, c_le, c_gt, c_ge, c_eqI, c_neI, c_isI, c_notI, c_isN, c_notN, i_ii, i_ib, n_i, d_i, l_min, l_max, x_ref, x_new, x_tup, s_new, s_tup, y_new, at_0, at_1, at_2, mat_int, mat_bl, mat_str, mat_non, mat_ref, mats_nil, mats_cons, mat_tup, List.getElem?_cons_zero, List.getElem?_cons_succ, List.set_cons_zero, List.set_cons_succ, decide_eq_true_eq, decide_eq_false_iff_not, wp_ok, true_implies, false_implies, reduceCtorEq, and_true, true_and, Bool.not_true, Bool.not_false, putA, List.length_nil, List.length_cons, List.set_set, reduceIte, Nat.reduceEqDiff, Nat.zero_ne_one, Nat.one_ne_zero, ne_eq, not_true_eq_false, not_false_eq_true, List.append_assoc, List.cons_append, List.nil_append, List.lookup_cons, List.lookup_nil, Nat.reduceBEq, beq_self_eq_true, Bool.and_true, Bool.true_and, Bool.false_and, Bool.and_false]
  have rest : ∀ (good2 : Bool) (since2 : Int), (good2 = true → ∀ v, u = some v → v ≤ since2 + R) → wp (evalSs P (sm P 11) (body1.drop 3) [some (.ref 0), some (.ref 1), some (.int L), some (.int R), some (.int p), some (.ref 2), some (.ref 4), some (.int now2), some (.bl good2), some (.int since2), some (.int (i : Nat)), t11, t12, none, none]
      [F, o3, gt L R now2 row u false, .lst rs, bud 10 p h (i : Nat) r]) Q := by
    intro good2 since2 hg2
    show wp (evalSs P (sm P 11) (.set 11 (.meth (.var 5) 1 17 14 []) :: body1.drop 4) _ _) Q
    refine wp_cons (wp_S_set ?_)
    simp only [we_var, we_non, we_bl, we_int, we_str, we_glb, ws_nil, ws_cons, we_tup, we_lst, we_bin, we_neg, we_cmp, we_chain, we_and1, we_or1, we_and, we_or, we_not, we_ite, we_idx, wo_none, wo_some, we_slc, we_attr, we_call, we_meth, we_make, we_makek, wmake, we_blt, we_bm, we_isi, we_comp, wf_nil, wf_one, wt_tru, wi_of, wi_range, wi_enum, wg_name, wg_tup, wg_nil, wg_cons, optQ_some, optQ_if, optQ_map, optQ_bind, tst_bl, tst_non, tst_int, b_add, b_sub, b_mul, b_fdiv, b_mod, b_pow, c_lt, c_le, c_gt, c_ge, c_eqI, c_neI, c_isI, c_notI, c_isN, c_notN, i_ii, i_ib, n_i, d_i, l_min, l_max, x_ref, x_new, x_tup, s_new, s_tup, y_new, at_0, at_1, at_2, mat_int, mat_bl, mat_str, mat_non, mat_ref, mats_nil, mats_cons, mat_tup, List.getElem?_cons_zero, List.getElem?_cons_succ, List.set_cons_zero, List.set_cons_succ, decide_eq_true_eq, decide_eq_false_iff_not, wp_ok, rcG (f := 17) rfl, true_implies, false_implies, reduceCtorEq, and_true, true_and, Bool.not_true, Bool.not_false, putA, List.length_nil, List.length_cons, List.set_set, reduceIte, Nat.reduceEqDiff, Nat.zero_ne_one, Nat.one_ne_zero, ne_eq, not_true_eq_false, not_false_eq_true, List.append_assoc, List.cons_append, List.nil_append, List.lookup_cons, List.lookup_nil, Nat.reduceBEq, beq_self_eq_true, Bool.and_true, Bool.true_and, Bool.false_and, Bool.and_false]
    refine state_ok ?_
    simp only [we_var, we_non, we_bl, we_int, we_str, we_glb, ws_nil, ws_cons, we_tup, we_lst, we_bin, we_neg, we_cmp, we_chain, we_and1, we_or1, we_and, we_or, we_not, we_ite, we_idx, wo_none, wo_some, we_slc, we_attr, we_call, we_meth, we_make, we_makek, wmake, we_blt, we_bm, we_isi, we_comp, wf_nil, wf_one, wt_tru, wi_of, wi_range, wi_enum, wg_name, wg_tup, wg_nil, wg_cons, optQ_some, optQ_if, optQ_map, optQ_bind, tst_bl, tst_non, tst_int, b_add, b_sub, b_mul, b_fdiv, b_mod, b_pow, c_lt, c_le, c_gt, c_ge, c_eqI, c_neI, c_isI, c_notI, c_isN, c_notN, i_ii, i_ib, n_i, d_i, l_min, l_max, x_ref, x_new, x_tup, s_new, s_tup, y_new, at_0, at_1, at_2, mat_int, mat_bl, mat_str, mat_non, mat_ref, mats_nil, mats_cons, mat_tup, List.getElem?_cons_zero, List.getElem?_cons_succ, List.set_cons_zero, List.set_cons_succ, decide_eq_true_eq, decide_eq_false_iff_not, wp_ok, true_implies, false_implies, reduceCtorEq, and_true, true_and, Bool.not_true, Bool.not_false, putA, List.length_nil, List.length_cons, List.set_set, reduceIte, Nat.reduceEqDiff, Nat.zero_ne_one, Nat.one_ne_zero, ne_eq, not_true_eq_false, not_false_eq_true, List.append_assoc, List.cons_append, List.nil_append, List.lookup_cons, List.lookup_nil, Nat.reduceBEq, beq_self_eq_true, Bool.and_true, Bool.true_and, Bool.false_and, Bool.and_false]
    show wp (evalSs P (sm P 11) (.set 12 (.call 5 [(.var 5), (.var 6), (.var 8)]) :: body1.drop 5) _ _) Q
    refine wp_cons (wp_S_set ?_)
    simp only [we_var, we_non, we_bl, we_int, we_str, we_glb, ws_nil, ws_cons, we_tup, we_lst, we_bin, we_neg, we_cmp, we_chain, we_and1, we_or1, we_and, we_or, we_not, we_ite, we_idx, wo_none, wo_some, we_slc, we_attr, we_call, we_meth, we_make, we_makek, wmake, we_blt, we_bm, we_isi, we_comp, wf_nil, wf_one, wt_tru, wi_of, wi_range, wi_enum, wg_name, wg_tup, wg_nil, wg_cons, optQ_some, optQ_if, optQ_map, optQ_bind, tst_bl, tst_non, tst_int, b_add, b_sub, b_mul, b_fdiv, b_mod, b_pow, c_lt, c_le, c_gt, c_ge, c_eqI, c_neI, c_isI, c_notI, c_isN, c_notN, i_ii, i_ib, n_i, d_i, l_min, l_max, x_ref, x_new, x_tup, s_new, s_tup, y_new, at_0, at_1, at_2, mat_int, mat_bl, mat_str, mat_non, mat_ref, mats_nil, mats_cons, mat_tup, List.getElem?_cons_zero, List.getElem?_cons_succ, List.set_cons_zero, List.set_cons_succ, decide_eq_true_eq, decide_eq_false_iff_not, wp_ok, true_implies, false_implies, reduceCtorEq, and_true, true_and, Bool.not_true, Bool.not_false, putA, List.length_nil, List.length_cons, List.set_set, reduceIte, Nat.reduceEqDiff, Nat.zero_ne_one, Nat.one_ne_zero, ne_eq, not_true_eq_false, not_false_eq_true, List.append_assoc, List.cons_append, List.nil_append, List.lookup_cons, List.lookup_nil, Nat.reduceBEq, beq_self_eq_true, Bool.and_true, Bool.true_and, Bool.false_and, Bool.and_false]
    refine lawcall_ok hp.1 h0 hR.1 hrs (by omega) fun f row2 u2 rs2 h2 r2 Rs hrs2 hl2 h20 he hrr => ?_
    simp only [we_var, we_non, we_bl, we_int, we_str, we_glb, ws_nil, ws_cons, we_tup, we_lst, we_bin, we_neg, we_cmp, we_chain, we_and1, we_or1, we_and, we_or, we_not, we_ite, we_idx, wo_none, wo_some, we_slc, we_attr, we_call, we_meth, we_make, we_makek, wmake, we_blt, we_bm, we_isi, we_comp, wf_nil, wf_one, wt_tru, wi_of, wi_range, wi_enum, wg_name, wg_tup, wg_nil, wg_cons, optQ_some, optQ_if, optQ_map, optQ_bind, tst_bl, tst_non, tst_int, b_add, b_sub, b_mul, b_fdiv, b_mod, b_pow, c_lt, c_le, c_gt, c_ge, c_eqI, c_neI, c_isI, c_notI, c_isN, c_notN, i_ii, i_ib, n_i, d_i, l_min, l_max, x_ref, x_new, x_tup, s_new, s_tup, y_new, at_0, at_1, at_2, mat_int, mat_bl, mat_str, mat_non, mat_ref, mats_nil, mats_cons, mat_tup, List.getElem?_cons_zero, List.getElem?_cons_succ, List.set_cons_zero, List.set_cons_succ, decide_eq_true_eq, decide_eq_false_iff_not, wp_ok, true_implies, false_implies, reduceCtorEq, and_true, true_and, Bool.not_true, Bool.not_false, putA, List.length_nil, List.length_cons, List.set_set, reduceIte, Nat.reduceEqDiff, Nat.zero_ne_one, Nat.one_ne_zero, ne_eq, not_true_eq_false, not_false_eq_true, List.append_assoc, List.cons_append, List.nil_append, List.lookup_cons, List.lookup_nil, Nat.reduceBEq, beq_self_eq_true, Bool.and_true, Bool.true_and, Bool.false_and, Bool.and_false]
    have hm : (if h + 1 < 10 then h + 1 else 10) ≤ h + 1 := by split <;> omega
    have hc2 : h2 + p * r2 ≤ 10 + ((i + 1 : Nat) : Int) := by omega
    show wp (evalSs P (sm P 11) (.ite (.cmp .ne (.cmp .eq (.var 12) (.int 0)) (.cmp .eq (.var 11) (.str "shut"))) [.ret (.bl false)] [] :: body1.drop 6) _ _) Q
    refine wp_cons (wp_S_ite ?_)
    simp only [we_var, we_non, we_bl, we_int, we_str, we_glb, ws_nil, ws_cons, we_tup, we_lst, we_bin, we_neg, we_cmp, we_chain, we_and1, we_or1, we_and, we_or, we_not, we_ite, we_idx, wo_none, wo_some, we_slc, we_attr, we_call, we_meth, we_make, we_makek, wmake, we_blt, we_bm, we_isi, we_comp, wf_nil, wf_one, wt_tru, wi_of, wi_range, wi_enum, wg_name, wg_tup, wg_nil, wg_cons, optQ_some, optQ_if, optQ_map, optQ_bind, tst_bl, tst_non, tst_int, b_add, b_sub, b_mul, b_fdiv, b_mod, b_pow, c_lt, c_le, c_gt, c_ge, c_eqI, c_neI, c_isI, c_notI, c_isN, c_notN, i_ii, i_ib, n_i, d_i, l_min, l_max, x_ref, x_new, x_tup, s_new, s_tup, y_new, at_0, at_1, at_2, mat_int, mat_bl, mat_str, mat_non, mat_ref, mats_nil, mats_cons, mat_tup, List.getElem?_cons_zero, List.getElem?_cons_succ, List.set_cons_zero, List.set_cons_succ, decide_eq_true_eq, decide_eq_false_iff_not, wp_ok, c_eqS, c_neB, true_implies, false_implies, reduceCtorEq, and_true, true_and, Bool.not_true, Bool.not_false, putA, List.length_nil, List.length_cons, List.set_set, reduceIte, Nat.reduceEqDiff, Nat.zero_ne_one, Nat.one_ne_zero, ne_eq, not_true_eq_false, not_false_eq_true, List.append_assoc, List.cons_append, List.nil_append, List.lookup_cons, List.lookup_nil, Nat.reduceBEq, beq_self_eq_true, Bool.and_true, Bool.true_and, Bool.false_and, Bool.and_false]
    refine ⟨fun z => ?_, fun _ => wp_nil ?_⟩
    · have := Rs.zero
      simp [this] at z
    have r20 : 0 ≤ r2 := by omega
    have r2p : r2 * p ≤ 10 + (i : Int) + 1 := by rw [Int.mul_comm]; omega
    have r2b : r2 ≤ 300 := by
      have : r2 * 1 ≤ r2 * p := Int.mul_le_mul_of_nonneg_left hp.1 r20
      omega
    -- the last condition, the turn's end
    have fin : ∀ t11 : Option D, wp (evalSs P (sm P 11) (body1.drop 9) [some (.ref 0), some (.ref 1), some (.int L), some (.int R), some (.int p), some (.ref 2), some (.ref 4), some (.int now2), some (.bl good2), some (.int since2), some (.int (i : Nat)), t11, some (.int f), none, none]
        [F, o3, gt L R now2 row2 u2 false, .lst rs2, bud 10 p h2 ((i : Int) + 1) r2]) Q := by
      intro t11
      show wp (evalSs P (sm P 11) (.ite (.cmp .gt (.bin .mul (.idx (.meth (.var 6) 0 15 11 []) (.int 2)) (.var 4)) (.bin .add (.bin .add (.int 10) (.var 10)) (.int 1))) [.ret (.bl false)] [] :: []) _ _) Q
      refine wp_cons (wp_S_ite ?_)
      simp only [we_var, we_non, we_bl, we_int, we_str, we_glb, ws_nil, ws_cons, we_tup, we_lst, we_bin, we_neg, we_cmp, we_chain, we_and1, we_or1, we_and, we_or, we_not, we_ite, we_idx, wo_none, wo_some, we_slc, we_attr, we_call, we_meth, we_make, we_makek, wmake, we_blt, we_bm, we_isi, we_comp, wf_nil, wf_one, wt_tru, wi_of, wi_range, wi_enum, wg_name, wg_tup, wg_nil, wg_cons, optQ_some, optQ_if, optQ_map, optQ_bind, tst_bl, tst_non, tst_int, b_add, b_sub, b_mul, b_fdiv, b_mod, b_pow, c_lt, c_le, c_gt, c_ge, c_eqI, c_neI, c_isI, c_notI, c_isN, c_notN, i_ii, i_ib, n_i, d_i, l_min, l_max, x_ref, x_new, x_tup, s_new, s_tup, y_new, at_0, at_1, at_2, mat_int, mat_bl, mat_str, mat_non, mat_ref, mats_nil, mats_cons, mat_tup, List.getElem?_cons_zero, List.getElem?_cons_succ, List.set_cons_zero, List.set_cons_succ, decide_eq_true_eq, decide_eq_false_iff_not, wp_ok, rcB (f := 15) rfl, true_implies, false_implies, reduceCtorEq, and_true, true_and, Bool.not_true, Bool.not_false, putA, List.length_nil, List.length_cons, List.set_set, reduceIte, Nat.reduceEqDiff, Nat.zero_ne_one, Nat.one_ne_zero, ne_eq, not_true_eq_false, not_false_eq_true, List.append_assoc, List.cons_append, List.nil_append, List.lookup_cons, List.lookup_nil, Nat.reduceBEq, beq_self_eq_true, Bool.and_true, Bool.true_and, Bool.false_and, Bool.and_false]
      refine counts_ok ?_
      simp only [we_var, we_non, we_bl, we_int, we_str, we_glb, ws_nil, ws_cons, we_tup, we_lst, we_bin, we_neg, we_cmp, we_chain, we_and1, we_or1, we_and, we_or, we_not, we_ite, we_idx, wo_none, wo_some, we_slc, we_attr, we_call, we_meth, we_make, we_makek, wmake, we_blt, we_bm, we_isi, we_comp, wf_nil, wf_one, wt_tru, wi_of, wi_range, wi_enum, wg_name, wg_tup, wg_nil, wg_cons, optQ_some, optQ_if, optQ_map, optQ_bind, tst_bl, tst_non, tst_int, b_add, b_sub, b_mul, b_fdiv, b_mod, b_pow, c_lt, c_le, c_gt, c_ge, c_eqI, c_neI, c_isI, c_notI, c_isN, c_notN, i_ii, i_ib, n_i, d_i, l_min, l_max, x_ref, x_new, x_tup, s_new, s_tup, y_new, at_0, at_1, at_2, mat_int, mat_bl, mat_str, mat_non, mat_ref, mats_nil, mats_cons, mat_tup, List.getElem?_cons_zero, List.getElem?_cons_succ, List.set_cons_zero, List.set_cons_succ, decide_eq_true_eq, decide_eq_false_iff_not, wp_ok, true_implies, false_implies, reduceCtorEq, and_true, true_and, Bool.not_true, Bool.not_false, putA, List.length_nil, List.length_cons, List.set_set, reduceIte, Nat.reduceEqDiff, Nat.zero_ne_one, Nat.one_ne_zero, ne_eq, not_true_eq_false, not_false_eq_true, List.append_assoc, List.cons_append, List.nil_append, List.lookup_cons, List.lookup_nil, Nat.reduceBEq, beq_self_eq_true, Bool.and_true, Bool.true_and, Bool.false_and, Bool.and_false]
      refine ⟨mul_ok (by omega) (by omega), fun z => absurd z (by omega), fun _ => wp_nil (wp_nil (hQ _ _ ⟨o3, now2, since2, row2, h2, r2, good2, u2, rs2, _, _, _, rfl, rfl, ?_, by omega, by omega, hrs2, by omega, h20, r20, hc2, ?_, ?_, by omega⟩))⟩
      · rw [show (977000 : Int) + 10 + 2 * ((i + 1 : Nat) : Int) = 977000 + 10 + 2 * (i : Int) + 1 + 1 by omega]
        exact ho
      · intro v hv
        rcases Rs.some_ with q | q | ⟨_, q⟩
        · rw [q] at hv; cases hv
        · rw [q] at hv; have := hu v hv; omega
        · rw [q] at hv; cases hv; omega
      · intro hg v hv
        rcases Rs.some_ with q | q | ⟨q, _⟩
        · rw [q] at hv; cases hv
        · rw [q] at hv; exact hg2 hg v hv
        · rw [q] at hg; cases hg
    show wp (evalSs P (sm P 11) (.ite (.and [(.var 8), (.cmp .ne (.var 11) (.str "shut")), (.or [(.cmp .ne (.var 12) (.int 1)), (.cmp .ne (.meth (.var 5) 1 17 14 []) (.str "open"))])]) [.ret (.bl false)] [] :: body1.drop 7) _ _) Q
    cases good2 with
    | true =>
      by_cases hb : stS u now2 = "shut"
      · -- shut
        have hnv : ¬ since2 + R < now2 := fun z => by
          obtain ⟨v, e, q⟩ := stS_shut.mp hb
          have := hg2 rfl v e
          omega
        refine wp_cons (wp_S_ite ?_)
        simp only [we_var, we_non, we_bl, we_int, we_str, we_glb, ws_nil, ws_cons, we_tup, we_lst, we_bin, we_neg, we_cmp, we_chain, we_and1, we_or1, we_and, we_or, we_not, we_ite, we_idx, wo_none, wo_some, we_slc, we_attr, we_call, we_meth, we_make, we_makek, wmake, we_blt, we_bm, we_isi, we_comp, wf_nil, wf_one, wt_tru, wi_of, wi_range, wi_enum, wg_name, wg_tup, wg_nil, wg_cons, optQ_some, optQ_if, optQ_map, optQ_bind, tst_bl, tst_non, tst_int, b_add, b_sub, b_mul, b_fdiv, b_mod, b_pow, c_lt, c_le, c_gt, c_ge, c_eqI, c_neI, c_isI, c_notI, c_isN, c_notN, i_ii, i_ib, n_i, d_i, l_min, l_max, x_ref, x_new, x_tup, s_new, s_tup, y_new, at_0, at_1, at_2, mat_int, mat_bl, mat_str, mat_non, mat_ref, mats_nil, mats_cons, mat_tup, List.getElem?_cons_zero, List.getElem?_cons_succ, List.set_cons_zero, List.set_cons_succ, decide_eq_true_eq, decide_eq_false_iff_not, wp_ok, c_neS, hb, decide_true, true_implies, false_implies, reduceCtorEq, and_true, true_and, Bool.not_true, Bool.not_false, putA, List.length_nil, List.length_cons, List.set_set, reduceIte, Nat.reduceEqDiff, Nat.zero_ne_one, Nat.one_ne_zero, ne_eq, not_true_eq_false, not_false_eq_true, List.append_assoc, List.cons_append, List.nil_append, List.lookup_cons, List.lookup_nil, Nat.reduceBEq, beq_self_eq_true, Bool.and_true, Bool.true_and, Bool.false_and, Bool.and_false]
        refine wp_nil ?_
        show wp (evalSs P (sm P 11) (sB :: sC :: body1.drop 9) _ _) Q
        refine wp_cons (wp_S_ite ?_)
        simp only [we_var, we_non, we_bl, we_int, we_str, we_glb, ws_nil, ws_cons, we_tup, we_lst, we_bin, we_neg, we_cmp, we_chain, we_and1, we_or1, we_and, we_or, we_not, we_ite, we_idx, wo_none, wo_some, we_slc, we_attr, we_call, we_meth, we_make, we_makek, wmake, we_blt, we_bm, we_isi, we_comp, wf_nil, wf_one, wt_tru, wi_of, wi_range, wi_enum, wg_name, wg_tup, wg_nil, wg_cons, optQ_some, optQ_if, optQ_map, optQ_bind, tst_bl, tst_non, tst_int, b_add, b_sub, b_mul, b_fdiv, b_mod, b_pow, c_lt, c_le, c_gt, c_ge, c_eqI, c_neI, c_isI, c_notI, c_isN, c_notN, i_ii, i_ib, n_i, d_i, l_min, l_max, x_ref, x_new, x_tup, s_new, s_tup, y_new, at_0, at_1, at_2, mat_int, mat_bl, mat_str, mat_non, mat_ref, mats_nil, mats_cons, mat_tup, List.getElem?_cons_zero, List.getElem?_cons_succ, List.set_cons_zero, List.set_cons_succ, decide_eq_true_eq, decide_eq_false_iff_not, wp_ok, hnv, decide_false, true_implies, false_implies, reduceCtorEq, and_true, true_and, Bool.not_true, Bool.not_false, putA, List.length_nil, List.length_cons, List.set_set, reduceIte, Nat.reduceEqDiff, Nat.zero_ne_one, Nat.one_ne_zero, ne_eq, not_true_eq_false, not_false_eq_true, List.append_assoc, List.cons_append, List.nil_append, List.lookup_cons, List.lookup_nil, Nat.reduceBEq, beq_self_eq_true, Bool.and_true, Bool.true_and, Bool.false_and, Bool.and_false]
        refine wp_nil (wp_cons (wp_S_ite ?_))
        simp only [we_var, we_non, we_bl, we_int, we_str, we_glb, ws_nil, ws_cons, we_tup, we_lst, we_bin, we_neg, we_cmp, we_chain, we_and1, we_or1, we_and, we_or, we_not, we_ite, we_idx, wo_none, wo_some, we_slc, we_attr, we_call, we_meth, we_make, we_makek, wmake, we_blt, we_bm, we_isi, we_comp, wf_nil, wf_one, wt_tru, wi_of, wi_range, wi_enum, wg_name, wg_tup, wg_nil, wg_cons, optQ_some, optQ_if, optQ_map, optQ_bind, tst_bl, tst_non, tst_int, b_add, b_sub, b_mul, b_fdiv, b_mod, b_pow, c_lt, c_le, c_gt, c_ge, c_eqI, c_neI, c_isI, c_notI, c_isN, c_notN, i_ii, i_ib, n_i, d_i, l_min, l_max, x_ref, x_new, x_tup, s_new, s_tup, y_new, at_0, at_1, at_2, mat_int, mat_bl, mat_str, mat_non, mat_ref, mats_nil, mats_cons, mat_tup, List.getElem?_cons_zero, List.getElem?_cons_succ, List.set_cons_zero, List.set_cons_succ, decide_eq_true_eq, decide_eq_false_iff_not, wp_ok, true_implies, false_implies, reduceCtorEq, and_true, true_and, Bool.not_true, Bool.not_false, putA, List.length_nil, List.length_cons, List.set_set, reduceIte, Nat.reduceEqDiff, Nat.zero_ne_one, Nat.one_ne_zero, ne_eq, not_true_eq_false, not_false_eq_true, List.append_assoc, List.cons_append, List.nil_append, List.lookup_cons, List.lookup_nil, Nat.reduceBEq, beq_self_eq_true, Bool.and_true, Bool.true_and, Bool.false_and, Bool.and_false]
        exact wp_nil (fin _)
      · obtain ⟨rfl, rfl⟩ := Rs.good1 rfl hb
        refine wp_cons (wp_S_ite ?_)
        simp only [we_var, we_non, we_bl, we_int, we_str, we_glb, ws_nil, ws_cons, we_tup, we_lst, we_bin, we_neg, we_cmp, we_chain, we_and1, we_or1, we_and, we_or, we_not, we_ite, we_idx, wo_none, wo_some, we_slc, we_attr, we_call, we_meth, we_make, we_makek, wmake, we_blt, we_bm, we_isi, we_comp, wf_nil, wf_one, wt_tru, wi_of, wi_range, wi_enum, wg_name, wg_tup, wg_nil, wg_cons, optQ_some, optQ_if, optQ_map, optQ_bind, tst_bl, tst_non, tst_int, b_add, b_sub, b_mul, b_fdiv, b_mod, b_pow, c_lt, c_le, c_gt, c_ge, c_eqI, c_neI, c_isI, c_notI, c_isN, c_notN, i_ii, i_ib, n_i, d_i, l_min, l_max, x_ref, x_new, x_tup, s_new, s_tup, y_new, at_0, at_1, at_2, mat_int, mat_bl, mat_str, mat_non, mat_ref, mats_nil, mats_cons, mat_tup, List.getElem?_cons_zero, List.getElem?_cons_succ, List.set_cons_zero, List.set_cons_succ, decide_eq_true_eq, decide_eq_false_iff_not, wp_ok, c_neS, hb, decide_true, decide_false, rcG (f := 17) rfl, true_implies, false_implies, reduceCtorEq, and_true, true_and, Bool.not_true, Bool.not_false, putA, List.length_nil, List.length_cons, List.set_set, reduceIte, Nat.reduceEqDiff, Nat.zero_ne_one, Nat.one_ne_zero, ne_eq, not_true_eq_false, not_false_eq_true, List.append_assoc, List.cons_append, List.nil_append, List.lookup_cons, List.lookup_nil, Nat.reduceBEq, beq_self_eq_true, Bool.and_true, Bool.true_and, Bool.false_and, Bool.and_false]
        refine state_ok ?_
        have e : stS none now2 = "open" := rfl
        simp only [we_var, we_non, we_bl, we_int, we_str, we_glb, ws_nil, ws_cons, we_tup, we_lst, we_bin, we_neg, we_cmp, we_chain, we_and1, we_or1, we_and, we_or, we_not, we_ite, we_idx, wo_none, wo_some, we_slc, we_attr, we_call, we_meth, we_make, we_makek, wmake, we_blt, we_bm, we_isi, we_comp, wf_nil, wf_one, wt_tru, wi_of, wi_range, wi_enum, wg_name, wg_tup, wg_nil, wg_cons, optQ_some, optQ_if, optQ_map, optQ_bind, tst_bl, tst_non, tst_int, b_add, b_sub, b_mul, b_fdiv, b_mod, b_pow, c_lt, c_le, c_gt, c_ge, c_eqI, c_neI, c_isI, c_notI, c_isN, c_notN, i_ii, i_ib, n_i, d_i, l_min, l_max, x_ref, x_new, x_tup, s_new, s_tup, y_new, at_0, at_1, at_2, mat_int, mat_bl, mat_str, mat_non, mat_ref, mats_nil, mats_cons, mat_tup, List.getElem?_cons_zero, List.getElem?_cons_succ, List.set_cons_zero, List.set_cons_succ, decide_eq_true_eq, decide_eq_false_iff_not, wp_ok, c_neS, e, decide_true, true_implies, false_implies, reduceCtorEq, and_true, true_and, Bool.not_true, Bool.not_false, putA, List.length_nil, List.length_cons, List.set_set, reduceIte, Nat.reduceEqDiff, Nat.zero_ne_one, Nat.one_ne_zero, ne_eq, not_true_eq_false, not_false_eq_true, List.append_assoc, List.cons_append, List.nil_append, List.lookup_cons, List.lookup_nil, Nat.reduceBEq, beq_self_eq_true, Bool.and_true, Bool.true_and, Bool.false_and, Bool.and_false]
        refine wp_nil ?_
        show wp (evalSs P (sm P 11) (sB :: sC :: body1.drop 9) _ _) Q
        refine wp_cons (wp_S_ite ?_)
        simp only [we_var, we_non, we_bl, we_int, we_str, we_glb, ws_nil, ws_cons, we_tup, we_lst, we_bin, we_neg, we_cmp, we_chain, we_and1, we_or1, we_and, we_or, we_not, we_ite, we_idx, wo_none, wo_some, we_slc, we_attr, we_call, we_meth, we_make, we_makek, wmake, we_blt, we_bm, we_isi, we_comp, wf_nil, wf_one, wt_tru, wi_of, wi_range, wi_enum, wg_name, wg_tup, wg_nil, wg_cons, optQ_some, optQ_if, optQ_map, optQ_bind, tst_bl, tst_non, tst_int, b_add, b_sub, b_mul, b_fdiv, b_mod, b_pow, c_lt, c_le, c_gt, c_ge, c_eqI, c_neI, c_isI, c_notI, c_isN, c_notN, i_ii, i_ib, n_i, d_i, l_min, l_max, x_ref, x_new, x_tup, s_new, s_tup, y_new, at_0, at_1, at_2, mat_int, mat_bl, mat_str, mat_non, mat_ref, mats_nil, mats_cons, mat_tup, List.getElem?_cons_zero, List.getElem?_cons_succ, List.set_cons_zero, List.set_cons_succ, decide_eq_true_eq, decide_eq_false_iff_not, wp_ok, true_implies, false_implies, reduceCtorEq, and_true, true_and, Bool.not_true, Bool.not_false, putA, List.length_nil, List.length_cons, List.set_set, reduceIte, Nat.reduceEqDiff, Nat.zero_ne_one, Nat.one_ne_zero, ne_eq, not_true_eq_false, not_false_eq_true, List.append_assoc, List.cons_append, List.nil_append, List.lookup_cons, List.lookup_nil, Nat.reduceBEq, beq_self_eq_true, Bool.and_true, Bool.true_and, Bool.false_and, Bool.and_false]
        refine ⟨fun _ => ?_, fun z => ⟨fun w => absurd w z, fun _ => ?_⟩⟩
        · simp only [rcG (f := 17) rfl, optQ_some]
          refine state_ok ?_
          simp only [we_var, we_non, we_bl, we_int, we_str, we_glb, ws_nil, ws_cons, we_tup, we_lst, we_bin, we_neg, we_cmp, we_chain, we_and1, we_or1, we_and, we_or, we_not, we_ite, we_idx, wo_none, wo_some, we_slc, we_attr, we_call, we_meth, we_make, we_makek, wmake, we_blt, we_bm, we_isi, we_comp, wf_nil, wf_one, wt_tru, wi_of, wi_range, wi_enum, wg_name, wg_tup, wg_nil, wg_cons, optQ_some, optQ_if, optQ_map, optQ_bind, tst_bl, tst_non, tst_int, b_add, b_sub, b_mul, b_fdiv, b_mod, b_pow, c_lt, c_le, c_gt, c_ge, c_eqI, c_neI, c_isI, c_notI, c_isN, c_notN, i_ii, i_ib, n_i, d_i, l_min, l_max, x_ref, x_new, x_tup, s_new, s_tup, y_new, at_0, at_1, at_2, mat_int, mat_bl, mat_str, mat_non, mat_ref, mats_nil, mats_cons, mat_tup, List.getElem?_cons_zero, List.getElem?_cons_succ, List.set_cons_zero, List.set_cons_succ, decide_eq_true_eq, decide_eq_false_iff_not, wp_ok, c_neS, e, decide_true, true_implies, false_implies, reduceCtorEq, and_true, true_and, Bool.not_true, Bool.not_false, putA, List.length_nil, List.length_cons, List.set_set, reduceIte, Nat.reduceEqDiff, Nat.zero_ne_one, Nat.one_ne_zero, ne_eq, not_true_eq_false, not_false_eq_true, List.append_assoc, List.cons_append, List.nil_append, List.lookup_cons, List.lookup_nil, Nat.reduceBEq, beq_self_eq_true, Bool.and_true, Bool.true_and, Bool.false_and, Bool.and_false]
          refine wp_nil (wp_cons (wp_S_ite ?_))
          simp only [we_var, we_non, we_bl, we_int, we_str, we_glb, ws_nil, ws_cons, we_tup, we_lst, we_bin, we_neg, we_cmp, we_chain, we_and1, we_or1, we_and, we_or, we_not, we_ite, we_idx, wo_none, wo_some, we_slc, we_attr, we_call, we_meth, we_make, we_makek, wmake, we_blt, we_bm, we_isi, we_comp, wf_nil, wf_one, wt_tru, wi_of, wi_range, wi_enum, wg_name, wg_tup, wg_nil, wg_cons, optQ_some, optQ_if, optQ_map, optQ_bind, tst_bl, tst_non, tst_int, b_add, b_sub, b_mul, b_fdiv, b_mod, b_pow, c_lt, c_le, c_gt, c_ge, c_eqI, c_neI, c_isI, c_notI, c_isN, c_notN, i_ii, i_ib, n_i, d_i, l_min, l_max, x_ref, x_new, x_tup, s_new, s_tup, y_new, at_0, at_1, at_2, mat_int, mat_bl, mat_str, mat_non, mat_ref, mats_nil, mats_cons, mat_tup, List.getElem?_cons_zero, List.getElem?_cons_succ, List.set_cons_zero, List.set_cons_succ, decide_eq_true_eq, decide_eq_false_iff_not, wp_ok, true_implies, false_implies, reduceCtorEq, and_true, true_and, Bool.not_true, Bool.not_false, putA, List.length_nil, List.length_cons, List.set_set, reduceIte, Nat.reduceEqDiff, Nat.zero_ne_one, Nat.one_ne_zero, ne_eq, not_true_eq_false, not_false_eq_true, List.append_assoc, List.cons_append, List.nil_append, List.lookup_cons, List.lookup_nil, Nat.reduceBEq, beq_self_eq_true, Bool.and_true, Bool.true_and, Bool.false_and, Bool.and_false]
          exact wp_nil (fin _)
        · refine wp_nil (wp_cons (wp_S_ite ?_))
          simp only [we_var, we_non, we_bl, we_int, we_str, we_glb, ws_nil, ws_cons, we_tup, we_lst, we_bin, we_neg, we_cmp, we_chain, we_and1, we_or1, we_and, we_or, we_not, we_ite, we_idx, wo_none, wo_some, we_slc, we_attr, we_call, we_meth, we_make, we_makek, wmake, we_blt, we_bm, we_isi, we_comp, wf_nil, wf_one, wt_tru, wi_of, wi_range, wi_enum, wg_name, wg_tup, wg_nil, wg_cons, optQ_some, optQ_if, optQ_map, optQ_bind, tst_bl, tst_non, tst_int, b_add, b_sub, b_mul, b_fdiv, b_mod, b_pow, c_lt, c_le, c_gt, c_ge, c_eqI, c_neI, c_isI, c_notI, c_isN, c_notN, i_ii, i_ib, n_i, d_i, l_min, l_max, x_ref, x_new, x_tup, s_new, s_tup, y_new, at_0, at_1, at_2, mat_int, mat_bl, mat_str, mat_non, mat_ref, mats_nil, mats_cons, mat_tup, List.getElem?_cons_zero, List.getElem?_cons_succ, List.set_cons_zero, List.set_cons_succ, decide_eq_true_eq, decide_eq_false_iff_not, wp_ok, true_implies, false_implies, reduceCtorEq, and_true, true_and, Bool.not_true, Bool.not_false, putA, List.length_nil, List.length_cons, List.set_set, reduceIte, Nat.reduceEqDiff, Nat.zero_ne_one, Nat.one_ne_zero, ne_eq, not_true_eq_false, not_false_eq_true, List.append_assoc, List.cons_append, List.nil_append, List.lookup_cons, List.lookup_nil, Nat.reduceBEq, beq_self_eq_true, Bool.and_true, Bool.true_and, Bool.false_and, Bool.and_false]
          exact wp_nil (fin _)
    | false =>
      refine wp_cons (wp_S_ite ?_)
      simp only [we_var, we_non, we_bl, we_int, we_str, we_glb, ws_nil, ws_cons, we_tup, we_lst, we_bin, we_neg, we_cmp, we_chain, we_and1, we_or1, we_and, we_or, we_not, we_ite, we_idx, wo_none, wo_some, we_slc, we_attr, we_call, we_meth, we_make, we_makek, wmake, we_blt, we_bm, we_isi, we_comp, wf_nil, wf_one, wt_tru, wi_of, wi_range, wi_enum, wg_name, wg_tup, wg_nil, wg_cons, optQ_some, optQ_if, optQ_map, optQ_bind, tst_bl, tst_non, tst_int, b_add, b_sub, b_mul, b_fdiv, b_mod, b_pow, c_lt, c_le, c_gt, c_ge, c_eqI, c_neI, c_isI, c_notI, c_isN, c_notN, i_ii, i_ib, n_i, d_i, l_min, l_max, x_ref, x_new, x_tup, s_new, s_tup, y_new, at_0, at_1, at_2, mat_int, mat_bl, mat_str, mat_non, mat_ref, mats_nil, mats_cons, mat_tup, List.getElem?_cons_zero, List.getElem?_cons_succ, List.set_cons_zero, List.set_cons_succ, decide_eq_true_eq, decide_eq_false_iff_not, wp_ok, true_implies, false_implies, reduceCtorEq, and_true, true_and, Bool.not_true, Bool.not_false, putA, List.length_nil, List.length_cons, List.set_set, reduceIte, Nat.reduceEqDiff, Nat.zero_ne_one, Nat.one_ne_zero, ne_eq, not_true_eq_false, not_false_eq_true, List.append_assoc, List.cons_append, List.nil_append, List.lookup_cons, List.lookup_nil, Nat.reduceBEq, beq_self_eq_true, Bool.and_true, Bool.true_and, Bool.false_and, Bool.and_false]
      refine wp_nil ?_
      show wp (evalSs P (sm P 11) (sB :: sC :: body1.drop 9) _ _) Q
      refine wp_cons (wp_S_ite ?_)
      simp only [we_var, we_non, we_bl, we_int, we_str, we_glb, ws_nil, ws_cons, we_tup, we_lst, we_bin, we_neg, we_cmp, we_chain, we_and1, we_or1, we_and, we_or, we_not, we_ite, we_idx, wo_none, wo_some, we_slc, we_attr, we_call, we_meth, we_make, we_makek, wmake, we_blt, we_bm, we_isi, we_comp, wf_nil, wf_one, wt_tru, wi_of, wi_range, wi_enum, wg_name, wg_tup, wg_nil, wg_cons, optQ_some, optQ_if, optQ_map, optQ_bind, tst_bl, tst_non, tst_int, b_add, b_sub, b_mul, b_fdiv, b_mod, b_pow, c_lt, c_le, c_gt, c_ge, c_eqI, c_neI, c_isI, c_notI, c_isN, c_notN, i_ii, i_ib, n_i, d_i, l_min, l_max, x_ref, x_new, x_tup, s_new, s_tup, y_new, at_0, at_1, at_2, mat_int, mat_bl, mat_str, mat_non, mat_ref, mats_nil, mats_cons, mat_tup, List.getElem?_cons_zero, List.getElem?_cons_succ, List.set_cons_zero, List.set_cons_succ, decide_eq_true_eq, decide_eq_false_iff_not, wp_ok, true_implies, false_implies, reduceCtorEq, and_true, true_and, Bool.not_true, Bool.not_false, putA, List.length_nil, List.length_cons, List.set_set, reduceIte, Nat.reduceEqDiff, Nat.zero_ne_one, Nat.one_ne_zero, ne_eq, not_true_eq_false, not_false_eq_true, List.append_assoc, List.cons_append, List.nil_append, List.lookup_cons, List.lookup_nil, Nat.reduceBEq, beq_self_eq_true, Bool.and_true, Bool.true_and, Bool.false_and, Bool.and_false]
      refine wp_nil (wp_cons (wp_S_ite ?_))
      by_cases ha : stS u now2 = "ajar"
      · obtain ⟨rfl, rfl⟩ := Rs.ajar rfl ha
        simp only [we_var, we_non, we_bl, we_int, we_str, we_glb, ws_nil, ws_cons, we_tup, we_lst, we_bin, we_neg, we_cmp, we_chain, we_and1, we_or1, we_and, we_or, we_not, we_ite, we_idx, wo_none, wo_some, we_slc, we_attr, we_call, we_meth, we_make, we_makek, wmake, we_blt, we_bm, we_isi, we_comp, wf_nil, wf_one, wt_tru, wi_of, wi_range, wi_enum, wg_name, wg_tup, wg_nil, wg_cons, optQ_some, optQ_if, optQ_map, optQ_bind, tst_bl, tst_non, tst_int, b_add, b_sub, b_mul, b_fdiv, b_mod, b_pow, c_lt, c_le, c_gt, c_ge, c_eqI, c_neI, c_isI, c_notI, c_isN, c_notN, i_ii, i_ib, n_i, d_i, l_min, l_max, x_ref, x_new, x_tup, s_new, s_tup, y_new, at_0, at_1, at_2, mat_int, mat_bl, mat_str, mat_non, mat_ref, mats_nil, mats_cons, mat_tup, List.getElem?_cons_zero, List.getElem?_cons_succ, List.set_cons_zero, List.set_cons_succ, decide_eq_true_eq, decide_eq_false_iff_not, wp_ok, c_eqS, ha, decide_true, rcG (f := 17) rfl, true_implies, false_implies, reduceCtorEq, and_true, true_and, Bool.not_true, Bool.not_false, putA, List.length_nil, List.length_cons, List.set_set, reduceIte, Nat.reduceEqDiff, Nat.zero_ne_one, Nat.one_ne_zero, ne_eq, not_true_eq_false, not_false_eq_true, List.append_assoc, List.cons_append, List.nil_append, List.lookup_cons, List.lookup_nil, Nat.reduceBEq, beq_self_eq_true, Bool.and_true, Bool.true_and, Bool.false_and, Bool.and_false]
        refine state_ok ?_
        have e : stS (some (now2 + R)) now2 = "shut" := stS_shut.mpr ⟨_, rfl, by omega⟩
        simp only [we_var, we_non, we_bl, we_int, we_str, we_glb, ws_nil, ws_cons, we_tup, we_lst, we_bin, we_neg, we_cmp, we_chain, we_and1, we_or1, we_and, we_or, we_not, we_ite, we_idx, wo_none, wo_some, we_slc, we_attr, we_call, we_meth, we_make, we_makek, wmake, we_blt, we_bm, we_isi, we_comp, wf_nil, wf_one, wt_tru, wi_of, wi_range, wi_enum, wg_name, wg_tup, wg_nil, wg_cons, optQ_some, optQ_if, optQ_map, optQ_bind, tst_bl, tst_non, tst_int, b_add, b_sub, b_mul, b_fdiv, b_mod, b_pow, c_lt, c_le, c_gt, c_ge, c_eqI, c_neI, c_isI, c_notI, c_isN, c_notN, i_ii, i_ib, n_i, d_i, l_min, l_max, x_ref, x_new, x_tup, s_new, s_tup, y_new, at_0, at_1, at_2, mat_int, mat_bl, mat_str, mat_non, mat_ref, mats_nil, mats_cons, mat_tup, List.getElem?_cons_zero, List.getElem?_cons_succ, List.set_cons_zero, List.set_cons_succ, decide_eq_true_eq, decide_eq_false_iff_not, wp_ok, c_neS, e, decide_true, true_implies, false_implies, reduceCtorEq, and_true, true_and, Bool.not_true, Bool.not_false, putA, List.length_nil, List.length_cons, List.set_set, reduceIte, Nat.reduceEqDiff, Nat.zero_ne_one, Nat.one_ne_zero, ne_eq, not_true_eq_false, not_false_eq_true, List.append_assoc, List.cons_append, List.nil_append, List.lookup_cons, List.lookup_nil, Nat.reduceBEq, beq_self_eq_true, Bool.and_true, Bool.true_and, Bool.false_and, Bool.and_false]
        exact wp_nil (fin _)
      · simp only [we_var, we_non, we_bl, we_int, we_str, we_glb, ws_nil, ws_cons, we_tup, we_lst, we_bin, we_neg, we_cmp, we_chain, we_and1, we_or1, we_and, we_or, we_not, we_ite, we_idx, wo_none, wo_some, we_slc, we_attr, we_call, we_meth, we_make, we_makek, wmake, we_blt, we_bm, we_isi, we_comp, wf_nil, wf_one, wt_tru, wi_of, wi_range, wi_enum, wg_name, wg_tup, wg_nil, wg_cons, optQ_some, optQ_if, optQ_map, optQ_bind, tst_bl, tst_non, tst_int, b_add, b_sub, b_mul, b_fdiv, b_mod, b_pow, c_lt, c_le, c_gt, c_ge, c_eqI, c_neI, c_isI, c_notI, c_isN, c_notN, i_ii, i_ib, n_i, d_i, l_min, l_max, x_ref, x_new, x_tup, s_new, s_tup, y_new, at_0, at_1, at_2, mat_int, mat_bl, mat_str, mat_non, mat_ref, mats_nil, mats_cons, mat_tup, List.getElem?_cons_zero, List.getElem?_cons_succ, List.set_cons_zero, List.set_cons_succ, decide_eq_true_eq, decide_eq_false_iff_not, wp_ok, c_eqS, ha, decide_false, true_implies, false_implies, reduceCtorEq, and_true, true_and, Bool.not_true, Bool.not_false, putA, List.length_nil, List.length_cons, List.set_set, reduceIte, Nat.reduceEqDiff, Nat.zero_ne_one, Nat.one_ne_zero, ne_eq, not_true_eq_false, not_false_eq_true, List.append_assoc, List.cons_append, List.nil_append, List.lookup_cons, List.lookup_nil, Nat.reduceBEq, beq_self_eq_true, Bool.and_true, Bool.true_and, Bool.false_and, Bool.and_false]
        exact wp_nil (fin _)
  -- the luck turns
  refine ⟨fun z => ?_, fun z => wp_nil (rest good since hu2)⟩
  refine wp_cons (wp_S_set ?_)
  simp only [we_var, we_non, we_bl, we_int, we_str, we_glb, ws_nil, ws_cons, we_tup, we_lst, we_bin, we_neg, we_cmp, we_chain, we_and1, we_or1, we_and, we_or, we_not, we_ite, we_idx, wo_none, wo_some, we_slc, we_attr, we_call, we_meth, we_make, we_makek, wmake, we_blt, we_bm, we_isi, we_comp, wf_nil, wf_one, wt_tru, wi_of, wi_range, wi_enum, wg_name, wg_tup, wg_nil, wg_cons, optQ_some, optQ_if, optQ_map, optQ_bind, tst_bl, tst_non, tst_int, b_add, b_sub, b_mul, b_fdiv, b_mod, b_pow, c_lt, c_le, c_gt, c_ge, c_eqI, c_neI, c_isI, c_notI, c_isN, c_notN, i_ii, i_ib, n_i, d_i, l_min, l_max, x_ref, x_new, x_tup, s_new, s_tup, y_new, at_0, at_1, at_2, mat_int, mat_bl, mat_str, mat_non, mat_ref, mats_nil, mats_cons, mat_tup, List.getElem?_cons_zero, List.getElem?_cons_succ, List.set_cons_zero, List.set_cons_succ, decide_eq_true_eq, decide_eq_false_iff_not, wp_ok, true_implies, false_implies, reduceCtorEq, and_true, true_and, Bool.not_true, Bool.not_false, putA, List.length_nil, List.length_cons, List.set_set, reduceIte, Nat.reduceEqDiff, Nat.zero_ne_one, Nat.one_ne_zero, ne_eq, not_true_eq_false, not_false_eq_true, List.append_assoc, List.cons_append, List.nil_append, List.lookup_cons, List.lookup_nil, Nat.reduceBEq, beq_self_eq_true, Bool.and_true, Bool.true_and, Bool.false_and, Bool.and_false]
  refine wp_cons (wp_S_set ?_)
  simp only [we_var, we_non, we_bl, we_int, we_str, we_glb, ws_nil, ws_cons, we_tup, we_lst, we_bin, we_neg, we_cmp, we_chain, we_and1, we_or1, we_and, we_or, we_not, we_ite, we_idx, wo_none, wo_some, we_slc, we_attr, we_call, we_meth, we_make, we_makek, wmake, we_blt, we_bm, we_isi, we_comp, wf_nil, wf_one, wt_tru, wi_of, wi_range, wi_enum, wg_name, wg_tup, wg_nil, wg_cons, optQ_some, optQ_if, optQ_map, optQ_bind, tst_bl, tst_non, tst_int, b_add, b_sub, b_mul, b_fdiv, b_mod, b_pow, c_lt, c_le, c_gt, c_ge, c_eqI, c_neI, c_isI, c_notI, c_isN, c_notN, i_ii, i_ib, n_i, d_i, l_min, l_max, x_ref, x_new, x_tup, s_new, s_tup, y_new, at_0, at_1, at_2, mat_int, mat_bl, mat_str, mat_non, mat_ref, mats_nil, mats_cons, mat_tup, List.getElem?_cons_zero, List.getElem?_cons_succ, List.set_cons_zero, List.set_cons_succ, decide_eq_true_eq, decide_eq_false_iff_not, wp_ok, true_implies, false_implies, reduceCtorEq, and_true, true_and, Bool.not_true, Bool.not_false, putA, List.length_nil, List.length_cons, List.set_set, reduceIte, Nat.reduceEqDiff, Nat.zero_ne_one, Nat.one_ne_zero, ne_eq, not_true_eq_false, not_false_eq_true, List.append_assoc, List.cons_append, List.nil_append, List.lookup_cons, List.lookup_nil, Nat.reduceBEq, beq_self_eq_true, Bool.and_true, Bool.true_and, Bool.false_and, Bool.and_false]
  exact wp_nil (rest (!good) now2 fun _ v hv => by have := hu v hv; omega)
theorem ginit_ok (hL : 1 ≤ L ∧ L ≤ 1000) (hR : 1 ≤ R ∧ R ≤ 1000) (hQ : Q .non [F, o1, gt L R 0 0 none false, .lst []]) : wp ((sm P (d + 3)).call 12 [.ref 2, .int L, .int R] [F, o1, .ins 1 []]) Q := by
  refine wp_call (fn := f12) rfl rfl (by decide) ?_
  show wp (evalSs P (sm P (d + 2)) b12 [some (.ref 2), some (.int L), some (.int R)] _) _
  have hb : ∀ x, ([F, o1, x] : Store)[2]? = some x := fun _ => rfl
  have hb2 : ∀ x y, ([F, o1, x, y] : Store)[2]? = some x := fun _ _ => rfl
  have hg : P.globs[0]? = some (("MOST_LIMIT" : Str), D.int 1000) := rfl
  unfold b12
  refine wp_cons (wp_S_ite ?_)
  simp only [we_var, we_non, we_bl, we_int, we_str, we_glb, ws_nil, ws_cons, we_tup, we_lst, we_bin, we_neg, we_cmp, we_chain, we_and1, we_or1, we_and, we_or, we_not, we_ite, we_idx, wo_none, wo_some, we_slc, we_attr, we_call, we_meth, we_make, we_makek, wmake, we_blt, we_bm, we_isi, we_comp, wf_nil, wf_one, wt_tru, wi_of, wi_range, wi_enum, wg_name, wg_tup, wg_nil, wg_cons, optQ_some, optQ_if, optQ_map, optQ_bind, tst_bl, tst_non, tst_int, b_add, b_sub, b_mul, b_fdiv, b_mod, b_pow, c_lt, c_le, c_gt, c_ge, c_eqI, c_neI, c_isI, c_notI, c_isN, c_notN, i_ii, i_ib, n_i, d_i, l_min, l_max, x_ref, x_new, x_tup, s_new, s_tup, y_new, at_0, at_1, at_2, mat_int, mat_bl, mat_str, mat_non, mat_ref, mats_nil, mats_cons, mat_tup, List.getElem?_cons_zero, List.getElem?_cons_succ, List.set_cons_zero, List.set_cons_succ, decide_eq_true_eq, decide_eq_false_iff_not, wp_ok, hg, true_implies, false_implies, reduceCtorEq, and_true, true_and, Bool.not_true, Bool.not_false, putA, List.length_nil, List.length_cons, List.set_set, reduceIte, Nat.reduceEqDiff, Nat.zero_ne_one, Nat.one_ne_zero, ne_eq, not_true_eq_false, not_false_eq_true, List.append_assoc, List.cons_append, List.nil_append, List.lookup_cons, List.lookup_nil, Nat.reduceBEq, beq_self_eq_true, Bool.and_true, Bool.true_and, Bool.false_and, Bool.and_false]
  refine within_ok hL.1 hL.2 ?_
  simp only [we_var, we_non, we_bl, we_int, we_str, we_glb, ws_nil, ws_cons, we_tup, we_lst, we_bin, we_neg, we_cmp, we_chain, we_and1, we_or1, we_and, we_or, we_not, we_ite, we_idx, wo_none, wo_some, we_slc, we_attr, we_call, we_meth, we_make, we_makek, wmake, we_blt, we_bm, we_isi, we_comp, wf_nil, wf_one, wt_tru, wi_of, wi_range, wi_enum, wg_name, wg_tup, wg_nil, wg_cons, optQ_some, optQ_if, optQ_map, optQ_bind, tst_bl, tst_non, tst_int, b_add, b_sub, b_mul, b_fdiv, b_mod, b_pow, c_lt, c_le, c_gt, c_ge, c_eqI, c_neI, c_isI, c_notI, c_isN, c_notN, i_ii, i_ib, n_i, d_i, l_min, l_max, x_ref, x_new, x_tup, s_new, s_tup, y_new, at_0, at_1, at_2, mat_int, mat_bl, mat_str, mat_non, mat_ref, mats_nil, mats_cons, mat_tup, List.getElem?_cons_zero, List.getElem?_cons_succ, List.set_cons_zero, List.set_cons_succ, decide_eq_true_eq, decide_eq_false_iff_not, wp_ok, true_implies, false_implies, reduceCtorEq, and_true, true_and, Bool.not_true, Bool.not_false, putA, List.length_nil, List.length_cons, List.set_set, reduceIte, Nat.reduceEqDiff, Nat.zero_ne_one, Nat.one_ne_zero, ne_eq, not_true_eq_false, not_false_eq_true, List.append_assoc, List.cons_append, List.nil_append, List.lookup_cons, List.lookup_nil, Nat.reduceBEq, beq_self_eq_true, Bool.and_true, Bool.true_and, Bool.false_and, Bool.and_false]
  refine within_ok hR.1 hR.2 ?_
  simp only [we_var, we_non, we_bl, we_int, we_str, we_glb, ws_nil, ws_cons, we_tup, we_lst, we_bin, we_neg, we_cmp, we_chain, we_and1, we_or1, we_and, we_or, we_not, we_ite, we_idx, wo_none, wo_some, we_slc, we_attr, we_call, we_meth, we_make, we_makek, wmake, we_blt, we_bm, we_isi, we_comp, wf_nil, wf_one, wt_tru, wi_of, wi_range, wi_enum, wg_name, wg_tup, wg_nil, wg_cons, optQ_some, optQ_if, optQ_map, optQ_bind, tst_bl, tst_non, tst_int, b_add, b_sub, b_mul, b_fdiv, b_mod, b_pow, c_lt, c_le, c_gt, c_ge, c_eqI, c_neI, c_isI, c_notI, c_isN, c_notN, i_ii, i_ib, n_i, d_i, l_min, l_max, x_ref, x_new, x_tup, s_new, s_tup, y_new, at_0, at_1, at_2, mat_int, mat_bl, mat_str, mat_non, mat_ref, mats_nil, mats_cons, mat_tup, List.getElem?_cons_zero, List.getElem?_cons_succ, List.set_cons_zero, List.set_cons_succ, decide_eq_true_eq, decide_eq_false_iff_not, wp_ok, true_implies, false_implies, reduceCtorEq, and_true, true_and, Bool.not_true, Bool.not_false, putA, List.length_nil, List.length_cons, List.set_set, reduceIte, Nat.reduceEqDiff, Nat.zero_ne_one, Nat.one_ne_zero, ne_eq, not_true_eq_false, not_false_eq_true, List.append_assoc, List.cons_append, List.nil_append, List.lookup_cons, List.lookup_nil, Nat.reduceBEq, beq_self_eq_true, Bool.and_true, Bool.true_and, Bool.false_and, Bool.and_false]
  refine wp_nil (wp_cons (wp_S_attr ?_))
  simp only [we_var, we_non, we_bl, we_int, we_str, we_glb, ws_nil, ws_cons, we_tup, we_lst, we_bin, we_neg, we_cmp, we_chain, we_and1, we_or1, we_and, we_or, we_not, we_ite, we_idx, wo_none, wo_some, we_slc, we_attr, we_call, we_meth, we_make, we_makek, wmake, we_blt, we_bm, we_isi, we_comp, wf_nil, wf_one, wt_tru, wi_of, wi_range, wi_enum, wg_name, wg_tup, wg_nil, wg_cons, optQ_some, optQ_if, optQ_map, optQ_bind, tst_bl, tst_non, tst_int, b_add, b_sub, b_mul, b_fdiv, b_mod, b_pow, c_lt, c_le, c_gt, c_ge, c_eqI, c_neI, c_isI, c_notI, c_isN, c_notN, i_ii, i_ib, n_i, d_i, l_min, l_max, x_ref, x_new, x_tup, s_new, s_tup, y_new, at_0, at_1, at_2, mat_int, mat_bl, mat_str, mat_non, mat_ref, mats_nil, mats_cons, mat_tup, List.getElem?_cons_zero, List.getElem?_cons_succ, List.set_cons_zero, List.set_cons_succ, decide_eq_true_eq, decide_eq_false_iff_not, wp_ok, u_attr (hb _), true_implies, false_implies, reduceCtorEq, and_true, true_and, Bool.not_true, Bool.not_false, putA, List.length_nil, List.length_cons, List.set_set, reduceIte, Nat.reduceEqDiff, Nat.zero_ne_one, Nat.one_ne_zero, ne_eq, not_true_eq_false, not_false_eq_true, List.append_assoc, List.cons_append, List.nil_append, List.lookup_cons, List.lookup_nil, Nat.reduceBEq, beq_self_eq_true, Bool.and_true, Bool.true_and, Bool.false_and, Bool.and_false]
  refine ⟨by decide, ?_⟩
  refine wp_cons (wp_S_attr ?_)
  simp only [we_var, we_non, we_bl, we_int, we_str, we_glb, ws_nil, ws_cons, we_tup, we_lst, we_bin, we_neg, we_cmp, we_chain, we_and1, we_or1, we_and, we_or, we_not, we_ite, we_idx, wo_none, wo_some, we_slc, we_attr, we_call, we_meth, we_make, we_makek, wmake, we_blt, we_bm, we_isi, we_comp, wf_nil, wf_one, wt_tru, wi_of, wi_range, wi_enum, wg_name, wg_tup, wg_nil, wg_cons, optQ_some, optQ_if, optQ_map, optQ_bind, tst_bl, tst_non, tst_int, b_add, b_sub, b_mul, b_fdiv, b_mod, b_pow, c_lt, c_le, c_gt, c_ge, c_eqI, c_neI, c_isI, c_notI, c_isN, c_notN, i_ii, i_ib, n_i, d_i, l_min, l_max, x_ref, x_new, x_tup, s_new, s_tup, y_new, at_0, at_1, at_2, mat_int, mat_bl, mat_str, mat_non, mat_ref, mats_nil, mats_cons, mat_tup, List.getElem?_cons_zero, List.getElem?_cons_succ, List.set_cons_zero, List.set_cons_succ, decide_eq_true_eq, decide_eq_false_iff_not, wp_ok, u_attr (hb _), true_implies, false_implies, reduceCtorEq, and_true, true_and, Bool.not_true, Bool.not_false, putA, List.length_nil, List.length_cons, List.set_set, reduceIte, Nat.reduceEqDiff, Nat.zero_ne_one, Nat.one_ne_zero, ne_eq, not_true_eq_false, not_false_eq_true, List.append_assoc, List.cons_append, List.nil_append, List.lookup_cons, List.lookup_nil, Nat.reduceBEq, beq_self_eq_true, Bool.and_true, Bool.true_and, Bool.false_and, Bool.and_false]
  refine ⟨by decide, ?_⟩
  refine wp_cons (wp_S_attr ?_)
  simp only [we_var, we_non, we_bl, we_int, we_str, we_glb, ws_nil, ws_cons, we_tup, we_lst, we_bin, we_neg, we_cmp, we_chain, we_and1, we_or1, we_and, we_or, we_not, we_ite, we_idx, wo_none, wo_some, we_slc, we_attr, we_call, we_meth, we_make, we_makek, wmake, we_blt, we_bm, we_isi, we_comp, wf_nil, wf_one, wt_tru, wi_of, wi_range, wi_enum, wg_name, wg_tup, wg_nil, wg_cons, optQ_some, optQ_if, optQ_map, optQ_bind, tst_bl, tst_non, tst_int, b_add, b_sub, b_mul, b_fdiv, b_mod, b_pow, c_lt, c_le, c_gt, c_ge, c_eqI, c_neI, c_isI, c_notI, c_isN, c_notN, i_ii, i_ib, n_i, d_i, l_min, l_max, x_ref, x_new, x_tup, s_new, s_tup, y_new, at_0, at_1, at_2, mat_int, mat_bl, mat_str, mat_non, mat_ref, mats_nil, mats_cons, mat_tup, List.getElem?_cons_zero, List.getElem?_cons_succ, List.set_cons_zero, List.set_cons_succ, decide_eq_true_eq, decide_eq_false_iff_not, wp_ok, u_attr (hb _), true_implies, false_implies, reduceCtorEq, and_true, true_and, Bool.not_true, Bool.not_false, putA, List.length_nil, List.length_cons, List.set_set, reduceIte, Nat.reduceEqDiff, Nat.zero_ne_one, Nat.one_ne_zero, ne_eq, not_true_eq_false, not_false_eq_true, List.append_assoc, List.cons_append, List.nil_append, List.lookup_cons, List.lookup_nil, Nat.reduceBEq, beq_self_eq_true, Bool.and_true, Bool.true_and, Bool.false_and, Bool.and_false]
  refine ⟨by decide, ?_⟩
  refine wp_cons (wp_S_attr ?_)
  simp only [we_var, we_non, we_bl, we_int, we_str, we_glb, ws_nil, ws_cons, we_tup, we_lst, we_bin, we_neg, we_cmp, we_chain, we_and1, we_or1, we_and, we_or, we_not, we_ite, we_idx, wo_none, wo_some, we_slc, we_attr, we_call, we_meth, we_make, we_makek, wmake, we_blt, we_bm, we_isi, we_comp, wf_nil, wf_one, wt_tru, wi_of, wi_range, wi_enum, wg_name, wg_tup, wg_nil, wg_cons, optQ_some, optQ_if, optQ_map, optQ_bind, tst_bl, tst_non, tst_int, b_add, b_sub, b_mul, b_fdiv, b_mod, b_pow, c_lt, c_le, c_gt, c_ge, c_eqI, c_neI, c_isI, c_notI, c_isN, c_notN, i_ii, i_ib, n_i, d_i, l_min, l_max, x_ref, x_new, x_tup, s_new, s_tup, y_new, at_0, at_1, at_2, mat_int, mat_bl, mat_str, mat_non, mat_ref, mats_nil, mats_cons, mat_tup, List.getElem?_cons_zero, List.getElem?_cons_succ, List.set_cons_zero, List.set_cons_succ, decide_eq_true_eq, decide_eq_false_iff_not, wp_ok, u_attr (hb _), true_implies, false_implies, reduceCtorEq, and_true, true_and, Bool.not_true, Bool.not_false, putA, List.length_nil, List.length_cons, List.set_set, reduceIte, Nat.reduceEqDiff, Nat.zero_ne_one, Nat.one_ne_zero, ne_eq, not_true_eq_false, not_false_eq_true, List.append_assoc, List.cons_append, List.nil_append, List.lookup_cons, List.lookup_nil, Nat.reduceBEq, beq_self_eq_true, Bool.and_true, Bool.true_and, Bool.false_and, Bool.and_false]
  refine ⟨by decide, ?_⟩
  refine wp_cons (wp_S_attr ?_)
  simp only [we_var, we_non, we_bl, we_int, we_str, we_glb, ws_nil, ws_cons, we_tup, we_lst, we_bin, we_neg, we_cmp, we_chain, we_and1, we_or1, we_and, we_or, we_not, we_ite, we_idx, wo_none, wo_some, we_slc, we_attr, we_call, we_meth, we_make, we_makek, wmake, we_blt, we_bm, we_isi, we_comp, wf_nil, wf_one, wt_tru, wi_of, wi_range, wi_enum, wg_name, wg_tup, wg_nil, wg_cons, optQ_some, optQ_if, optQ_map, optQ_bind, tst_bl, tst_non, tst_int, b_add, b_sub, b_mul, b_fdiv, b_mod, b_pow, c_lt, c_le, c_gt, c_ge, c_eqI, c_neI, c_isI, c_notI, c_isN, c_notN, i_ii, i_ib, n_i, d_i, l_min, l_max, x_ref, x_new, x_tup, s_new, s_tup, y_new, at_0, at_1, at_2, mat_int, mat_bl, mat_str, mat_non, mat_ref, mats_nil, mats_cons, mat_tup, List.getElem?_cons_zero, List.getElem?_cons_succ, List.set_cons_zero, List.set_cons_succ, decide_eq_true_eq, decide_eq_false_iff_not, wp_ok, u_attr (hb _), true_implies, false_implies, reduceCtorEq, and_true, true_and, Bool.not_true, Bool.not_false, putA, List.length_nil, List.length_cons, List.set_set, reduceIte, Nat.reduceEqDiff, Nat.zero_ne_one, Nat.one_ne_zero, ne_eq, not_true_eq_false, not_false_eq_true, List.append_assoc, List.cons_append, List.nil_append, List.lookup_cons, List.lookup_nil, Nat.reduceBEq, beq_self_eq_true, Bool.and_true, Bool.true_and, Bool.false_and, Bool.and_false]
  refine ⟨by decide, ?_⟩
  refine wp_cons (wp_S_attr ?_)
  simp only [we_var, we_non, we_bl, we_int, we_str, we_glb, ws_nil, ws_cons, we_tup, we_lst, we_bin, we_neg, we_cmp, we_chain, we_and1, we_or1, we_and, we_or, we_not, we_ite, we_idx, wo_none, wo_some, we_slc, we_attr, we_call, we_meth, we_make, we_makek, wmake, we_blt, we_bm, we_isi, we_comp, wf_nil, wf_one, wt_tru, wi_of, wi_range, wi_enum, wg_name, wg_tup, wg_nil, wg_cons, optQ_some, optQ_if, optQ_map, optQ_bind, tst_bl, tst_non, tst_int, b_add, b_sub, b_mul, b_fdiv, b_mod, b_pow, c_lt, c_le, c_gt, c_ge, c_eqI, c_neI, c_isI, c_notI, c_isN, c_notN, i_ii, i_ib, n_i, d_i, l_min, l_max, x_ref, x_new, x_tup, s_new, s_tup, y_new, at_0, at_1, at_2, mat_int, mat_bl, mat_str, mat_non, mat_ref, mats_nil, mats_cons, mat_tup, List.getElem?_cons_zero, List.getElem?_cons_succ, List.set_cons_zero, List.set_cons_succ, decide_eq_true_eq, decide_eq_false_iff_not, wp_ok, u_attr (hb _), true_implies, false_implies, reduceCtorEq, and_true, true_and, Bool.not_true, Bool.not_false, putA, List.length_nil, List.length_cons, List.set_set, reduceIte, Nat.reduceEqDiff, Nat.zero_ne_one, Nat.one_ne_zero, ne_eq, not_true_eq_false, not_false_eq_true, List.append_assoc, List.cons_append, List.nil_append, List.lookup_cons, List.lookup_nil, Nat.reduceBEq, beq_self_eq_true, Bool.and_true, Bool.true_and, Bool.false_and, Bool.and_false]
  refine ⟨by decide, ?_⟩
  refine wp_cons (wp_S_attr ?_)
  simp only [we_var, we_non, we_bl, we_int, we_str, we_glb, ws_nil, ws_cons, we_tup, we_lst, we_bin, we_neg, we_cmp, we_chain, we_and1, we_or1, we_and, we_or, we_not, we_ite, we_idx, wo_none, wo_some, we_slc, we_attr, we_call, we_meth, we_make, we_makek, wmake, we_blt, we_bm, we_isi, we_comp, wf_nil, wf_one, wt_tru, wi_of, wi_range, wi_enum, wg_name, wg_tup, wg_nil, wg_cons, optQ_some, optQ_if, optQ_map, optQ_bind, tst_bl, tst_non, tst_int, b_add, b_sub, b_mul, b_fdiv, b_mod, b_pow, c_lt, c_le, c_gt, c_ge, c_eqI, c_neI, c_isI, c_notI, c_isN, c_notN, i_ii, i_ib, n_i, d_i, l_min, l_max, x_ref, x_new, x_tup, s_new, s_tup, y_new, at_0, at_1, at_2, mat_int, mat_bl, mat_str, mat_non, mat_ref, mats_nil, mats_cons, mat_tup, List.getElem?_cons_zero, List.getElem?_cons_succ, List.set_cons_zero, List.set_cons_succ, decide_eq_true_eq, decide_eq_false_iff_not, wp_ok, mat_lst, u_attr (hb2 _ _), true_implies, false_implies, reduceCtorEq, and_true, true_and, Bool.not_true, Bool.not_false, putA, List.length_nil, List.length_cons, List.set_set, reduceIte, Nat.reduceEqDiff, Nat.zero_ne_one, Nat.one_ne_zero, ne_eq, not_true_eq_false, not_false_eq_true, List.append_assoc, List.cons_append, List.nil_append, List.lookup_cons, List.lookup_nil, Nat.reduceBEq, beq_self_eq_true, Bool.and_true, Bool.true_and, Bool.false_and, Bool.and_false]
  exact ⟨Nat.zero_le _, by decide, wp_nil (ret_n hQ)⟩
theorem binit_ok (hp : 1 ≤ p ∧ p ≤ 10) (hQ : Q .non [F, o1, g, .lst rs, bud 10 p 10 0 0]) : wp ((sm P (d + 3)).call 7 [.ref 4, .int 10, .int p, .non] [F, o1, g, .lst rs, .ins 0 []]) Q := by
  refine wp_call (fn := f7) rfl rfl (by decide) ?_
  show wp (evalSs P (sm P (d + 2)) b7 [some (.ref 4), some (.int 10), some (.int p), some .non] _) _
  have hb : ∀ x, ([F, o1, g, .lst rs, x] : Store)[4]? = some x := fun _ => rfl
  have hg : P.globs[0]? = some (("MOST_LIMIT" : Str), D.int 1000) := rfl
  unfold b7
  refine wp_cons (wp_S_ite ?_)
  simp only [we_var, we_non, we_bl, we_int, we_str, we_glb, ws_nil, ws_cons, we_tup, we_lst, we_bin, we_neg, we_cmp, we_chain, we_and1, we_or1, we_and, we_or, we_not, we_ite, we_idx, wo_none, wo_some, we_slc, we_attr, we_call, we_meth, we_make, we_makek, wmake, we_blt, we_bm, we_isi, we_comp, wf_nil, wf_one, wt_tru, wi_of, wi_range, wi_enum, wg_name, wg_tup, wg_nil, wg_cons, optQ_some, optQ_if, optQ_map, optQ_bind, tst_bl, tst_non, tst_int, b_add, b_sub, b_mul, b_fdiv, b_mod, b_pow, c_lt, c_le, c_gt, c_ge, c_eqI, c_neI, c_isI, c_notI, c_isN, c_notN, i_ii, i_ib, n_i, d_i, l_min, l_max, x_ref, x_new, x_tup, s_new, s_tup, y_new, at_0, at_1, at_2, mat_int, mat_bl, mat_str, mat_non, mat_ref, mats_nil, mats_cons, mat_tup, List.getElem?_cons_zero, List.getElem?_cons_succ, List.set_cons_zero, List.set_cons_succ, decide_eq_true_eq, decide_eq_false_iff_not, wp_ok, hg, true_implies, false_implies, reduceCtorEq, and_true, true_and, Bool.not_true, Bool.not_false, putA, List.length_nil, List.length_cons, List.set_set, reduceIte, Nat.reduceEqDiff, Nat.zero_ne_one, Nat.one_ne_zero, ne_eq, not_true_eq_false, not_false_eq_true, List.append_assoc, List.cons_append, List.nil_append, List.lookup_cons, List.lookup_nil, Nat.reduceBEq, beq_self_eq_true, Bool.and_true, Bool.true_and, Bool.false_and, Bool.and_false]
  refine within_ok (by decide) (by decide) ?_
  simp only [we_var, we_non, we_bl, we_int, we_str, we_glb, ws_nil, ws_cons, we_tup, we_lst, we_bin, we_neg, we_cmp, we_chain, we_and1, we_or1, we_and, we_or, we_not, we_ite, we_idx, wo_none, wo_some, we_slc, we_attr, we_call, we_meth, we_make, we_makek, wmake, we_blt, we_bm, we_isi, we_comp, wf_nil, wf_one, wt_tru, wi_of, wi_range, wi_enum, wg_name, wg_tup, wg_nil, wg_cons, optQ_some, optQ_if, optQ_map, optQ_bind, tst_bl, tst_non, tst_int, b_add, b_sub, b_mul, b_fdiv, b_mod, b_pow, c_lt, c_le, c_gt, c_ge, c_eqI, c_neI, c_isI, c_notI, c_isN, c_notN, i_ii, i_ib, n_i, d_i, l_min, l_max, x_ref, x_new, x_tup, s_new, s_tup, y_new, at_0, at_1, at_2, mat_int, mat_bl, mat_str, mat_non, mat_ref, mats_nil, mats_cons, mat_tup, List.getElem?_cons_zero, List.getElem?_cons_succ, List.set_cons_zero, List.set_cons_succ, decide_eq_true_eq, decide_eq_false_iff_not, wp_ok, true_implies, false_implies, reduceCtorEq, and_true, true_and, Bool.not_true, Bool.not_false, putA, List.length_nil, List.length_cons, List.set_set, reduceIte, Nat.reduceEqDiff, Nat.zero_ne_one, Nat.one_ne_zero, ne_eq, not_true_eq_false, not_false_eq_true, List.append_assoc, List.cons_append, List.nil_append, List.lookup_cons, List.lookup_nil, Nat.reduceBEq, beq_self_eq_true, Bool.and_true, Bool.true_and, Bool.false_and, Bool.and_false]
  refine within_ok hp.1 hp.2 ?_
  simp only [we_var, we_non, we_bl, we_int, we_str, we_glb, ws_nil, ws_cons, we_tup, we_lst, we_bin, we_neg, we_cmp, we_chain, we_and1, we_or1, we_and, we_or, we_not, we_ite, we_idx, wo_none, wo_some, we_slc, we_attr, we_call, we_meth, we_make, we_makek, wmake, we_blt, we_bm, we_isi, we_comp, wf_nil, wf_one, wt_tru, wi_of, wi_range, wi_enum, wg_name, wg_tup, wg_nil, wg_cons, optQ_some, optQ_if, optQ_map, optQ_bind, tst_bl, tst_non, tst_int, b_add, b_sub, b_mul, b_fdiv, b_mod, b_pow, c_lt, c_le, c_gt, c_ge, c_eqI, c_neI, c_isI, c_notI, c_isN, c_notN, i_ii, i_ib, n_i, d_i, l_min, l_max, x_ref, x_new, x_tup, s_new, s_tup, y_new, at_0, at_1, at_2, mat_int, mat_bl, mat_str, mat_non, mat_ref, mats_nil, mats_cons, mat_tup, List.getElem?_cons_zero, List.getElem?_cons_succ, List.set_cons_zero, List.set_cons_succ, decide_eq_true_eq, decide_eq_false_iff_not, wp_ok, true_implies, false_implies, reduceCtorEq, and_true, true_and, Bool.not_true, Bool.not_false, putA, List.length_nil, List.length_cons, List.set_set, reduceIte, Nat.reduceEqDiff, Nat.zero_ne_one, Nat.one_ne_zero, ne_eq, not_true_eq_false, not_false_eq_true, List.append_assoc, List.cons_append, List.nil_append, List.lookup_cons, List.lookup_nil, Nat.reduceBEq, beq_self_eq_true, Bool.and_true, Bool.true_and, Bool.false_and, Bool.and_false]
  refine wp_nil (wp_cons (wp_S_ite ?_))
  simp only [we_var, we_non, we_bl, we_int, we_str, we_glb, ws_nil, ws_cons, we_tup, we_lst, we_bin, we_neg, we_cmp, we_chain, we_and1, we_or1, we_and, we_or, we_not, we_ite, we_idx, wo_none, wo_some, we_slc, we_attr, we_call, we_meth, we_make, we_makek, wmake, we_blt, we_bm, we_isi, we_comp, wf_nil, wf_one, wt_tru, wi_of, wi_range, wi_enum, wg_name, wg_tup, wg_nil, wg_cons, optQ_some, optQ_if, optQ_map, optQ_bind, tst_bl, tst_non, tst_int, b_add, b_sub, b_mul, b_fdiv, b_mod, b_pow, c_lt, c_le, c_gt, c_ge, c_eqI, c_neI, c_isI, c_notI, c_isN, c_notN, i_ii, i_ib, n_i, d_i, l_min, l_max, x_ref, x_new, x_tup, s_new, s_tup, y_new, at_0, at_1, at_2, mat_int, mat_bl, mat_str, mat_non, mat_ref, mats_nil, mats_cons, mat_tup, List.getElem?_cons_zero, List.getElem?_cons_succ, List.set_cons_zero, List.set_cons_succ, decide_eq_true_eq, decide_eq_false_iff_not, wp_ok, true_implies, false_implies, reduceCtorEq, and_true, true_and, Bool.not_true, Bool.not_false, putA, List.length_nil, List.length_cons, List.set_set, reduceIte, Nat.reduceEqDiff, Nat.zero_ne_one, Nat.one_ne_zero, ne_eq, not_true_eq_false, not_false_eq_true, List.append_assoc, List.cons_append, List.nil_append, List.lookup_cons, List.lookup_nil, Nat.reduceBEq, beq_self_eq_true, Bool.and_true, Bool.true_and, Bool.false_and, Bool.and_false]
  refine wp_nil (wp_cons (wp_S_attr ?_))
  simp only [we_var, we_non, we_bl, we_int, we_str, we_glb, ws_nil, ws_cons, we_tup, we_lst, we_bin, we_neg, we_cmp, we_chain, we_and1, we_or1, we_and, we_or, we_not, we_ite, we_idx, wo_none, wo_some, we_slc, we_attr, we_call, we_meth, we_make, we_makek, wmake, we_blt, we_bm, we_isi, we_comp, wf_nil, wf_one, wt_tru, wi_of, wi_range, wi_enum, wg_name, wg_tup, wg_nil, wg_cons, optQ_some, optQ_if, optQ_map, optQ_bind, tst_bl, tst_non, tst_int, b_add, b_sub, b_mul, b_fdiv, b_mod, b_pow, c_lt, c_le, c_gt, c_ge, c_eqI, c_neI, c_isI, c_notI, c_isN, c_notN, i_ii, i_ib, n_i, d_i, l_min, l_max, x_ref, x_new, x_tup, s_new, s_tup, y_new, at_0, at_1, at_2, mat_int, mat_bl, mat_str, mat_non, mat_ref, mats_nil, mats_cons, mat_tup, List.getElem?_cons_zero, List.getElem?_cons_succ, List.set_cons_zero, List.set_cons_succ, decide_eq_true_eq, decide_eq_false_iff_not, wp_ok, u_attr (hb _), true_implies, false_implies, reduceCtorEq, and_true, true_and, Bool.not_true, Bool.not_false, putA, List.length_nil, List.length_cons, List.set_set, reduceIte, Nat.reduceEqDiff, Nat.zero_ne_one, Nat.one_ne_zero, ne_eq, not_true_eq_false, not_false_eq_true, List.append_assoc, List.cons_append, List.nil_append, List.lookup_cons, List.lookup_nil, Nat.reduceBEq, beq_self_eq_true, Bool.and_true, Bool.true_and, Bool.false_and, Bool.and_false]
  refine ⟨by decide, ?_⟩
  refine wp_cons (wp_S_attr ?_)
  simp only [we_var, we_non, we_bl, we_int, we_str, we_glb, ws_nil, ws_cons, we_tup, we_lst, we_bin, we_neg, we_cmp, we_chain, we_and1, we_or1, we_and, we_or, we_not, we_ite, we_idx, wo_none, wo_some, we_slc, we_attr, we_call, we_meth, we_make, we_makek, wmake, we_blt, we_bm, we_isi, we_comp, wf_nil, wf_one, wt_tru, wi_of, wi_range, wi_enum, wg_name, wg_tup, wg_nil, wg_cons, optQ_some, optQ_if, optQ_map, optQ_bind, tst_bl, tst_non, tst_int, b_add, b_sub, b_mul, b_fdiv, b_mod, b_pow, c_lt, c_le, c_gt, c_ge, c_eqI, c_neI, c_isI, c_notI, c_isN, c_notN, i_ii, i_ib, n_i, d_i, l_min, l_max, x_ref, x_new, x_tup, s_new, s_tup, y_new, at_0, at_1, at_2, mat_int, mat_bl, mat_str, mat_non, mat_ref, mats_nil, mats_cons, mat_tup, List.getElem?_cons_zero, List.getElem?_cons_succ, List.set_cons_zero, List.set_cons_succ, decide_eq_true_eq, decide_eq_false_iff_not, wp_ok, u_attr (hb _), true_implies, false_implies, reduceCtorEq, and_true, true_and, Bool.not_true, Bool.not_false, putA, List.length_nil, List.length_cons, List.set_set, reduceIte, Nat.reduceEqDiff, Nat.zero_ne_one, Nat.one_ne_zero, ne_eq, not_true_eq_false, not_false_eq_true, List.append_assoc, List.cons_append, List.nil_append, List.lookup_cons, List.lookup_nil, Nat.reduceBEq, beq_self_eq_true, Bool.and_true, Bool.true_and, Bool.false_and, Bool.and_false]
  refine ⟨by decide, ?_⟩
  refine wp_cons (wp_S_attr ?_)
  simp only [we_var, we_non, we_bl, we_int, we_str, we_glb, ws_nil, ws_cons, we_tup, we_lst, we_bin, we_neg, we_cmp, we_chain, we_and1, we_or1, we_and, we_or, we_not, we_ite, we_idx, wo_none, wo_some, we_slc, we_attr, we_call, we_meth, we_make, we_makek, wmake, we_blt, we_bm, we_isi, we_comp, wf_nil, wf_one, wt_tru, wi_of, wi_range, wi_enum, wg_name, wg_tup, wg_nil, wg_cons, optQ_some, optQ_if, optQ_map, optQ_bind, tst_bl, tst_non, tst_int, b_add, b_sub, b_mul, b_fdiv, b_mod, b_pow, c_lt, c_le, c_gt, c_ge, c_eqI, c_neI, c_isI, c_notI, c_isN, c_notN, i_ii, i_ib, n_i, d_i, l_min, l_max, x_ref, x_new, x_tup, s_new, s_tup, y_new, at_0, at_1, at_2, mat_int, mat_bl, mat_str, mat_non, mat_ref, mats_nil, mats_cons, mat_tup, List.getElem?_cons_zero, List.getElem?_cons_succ, List.set_cons_zero, List.set_cons_succ, decide_eq_true_eq, decide_eq_false_iff_not, wp_ok, u_attr (hb _), true_implies, false_implies, reduceCtorEq, and_true, true_and, Bool.not_true, Bool.not_false, putA, List.length_nil, List.length_cons, List.set_set, reduceIte, Nat.reduceEqDiff, Nat.zero_ne_one, Nat.one_ne_zero, ne_eq, not_true_eq_false, not_false_eq_true, List.append_assoc, List.cons_append, List.nil_append, List.lookup_cons, List.lookup_nil, Nat.reduceBEq, beq_self_eq_true, Bool.and_true, Bool.true_and, Bool.false_and, Bool.and_false]
  refine ⟨by decide, ?_⟩
  refine wp_cons (wp_S_attr ?_)
  simp only [we_var, we_non, we_bl, we_int, we_str, we_glb, ws_nil, ws_cons, we_tup, we_lst, we_bin, we_neg, we_cmp, we_chain, we_and1, we_or1, we_and, we_or, we_not, we_ite, we_idx, wo_none, wo_some, we_slc, we_attr, we_call, we_meth, we_make, we_makek, wmake, we_blt, we_bm, we_isi, we_comp, wf_nil, wf_one, wt_tru, wi_of, wi_range, wi_enum, wg_name, wg_tup, wg_nil, wg_cons, optQ_some, optQ_if, optQ_map, optQ_bind, tst_bl, tst_non, tst_int, b_add, b_sub, b_mul, b_fdiv, b_mod, b_pow, c_lt, c_le, c_gt, c_ge, c_eqI, c_neI, c_isI, c_notI, c_isN, c_notN, i_ii, i_ib, n_i, d_i, l_min, l_max, x_ref, x_new, x_tup, s_new, s_tup, y_new, at_0, at_1, at_2, mat_int, mat_bl, mat_str, mat_non, mat_ref, mats_nil, mats_cons, mat_tup, List.getElem?_cons_zero, List.getElem?_cons_succ, List.set_cons_zero, List.set_cons_succ, decide_eq_true_eq, decide_eq_false_iff_not, wp_ok, u_attr (hb _), true_implies, false_implies, reduceCtorEq, and_true, true_and, Bool.not_true, Bool.not_false, putA, List.length_nil, List.length_cons, List.set_set, reduceIte, Nat.reduceEqDiff, Nat.zero_ne_one, Nat.one_ne_zero, ne_eq, not_true_eq_false, not_false_eq_true, List.append_assoc, List.cons_append, List.nil_append, List.lookup_cons, List.lookup_nil, Nat.reduceBEq, beq_self_eq_true, Bool.and_true, Bool.true_and, Bool.false_and, Bool.and_false]
  refine ⟨by decide, ?_⟩
  refine wp_cons (wp_S_attr ?_)
  simp only [we_var, we_non, we_bl, we_int, we_str, we_glb, ws_nil, ws_cons, we_tup, we_lst, we_bin, we_neg, we_cmp, we_chain, we_and1, we_or1, we_and, we_or, we_not, we_ite, we_idx, wo_none, wo_some, we_slc, we_attr, we_call, we_meth, we_make, we_makek, wmake, we_blt, we_bm, we_isi, we_comp, wf_nil, wf_one, wt_tru, wi_of, wi_range, wi_enum, wg_name, wg_tup, wg_nil, wg_cons, optQ_some, optQ_if, optQ_map, optQ_bind, tst_bl, tst_non, tst_int, b_add, b_sub, b_mul, b_fdiv, b_mod, b_pow, c_lt, c_le, c_gt, c_ge, c_eqI, c_neI, c_isI, c_notI, c_isN, c_notN, i_ii, i_ib, n_i, d_i, l_min, l_max, x_ref, x_new, x_tup, s_new, s_tup, y_new, at_0, at_1, at_2, mat_int, mat_bl, mat_str, mat_non, mat_ref, mats_nil, mats_cons, mat_tup, List.getElem?_cons_zero, List.getElem?_cons_succ, List.set_cons_zero, List.set_cons_succ, decide_eq_true_eq, decide_eq_false_iff_not, wp_ok, u_attr (hb _), true_implies, false_implies, reduceCtorEq, and_true, true_and, Bool.not_true, Bool.not_false, putA, List.length_nil, List.length_cons, List.set_set, reduceIte, Nat.reduceEqDiff, Nat.zero_ne_one, Nat.one_ne_zero, ne_eq, not_true_eq_false, not_false_eq_true, List.append_assoc, List.cons_append, List.nil_append, List.lookup_cons, List.lookup_nil, Nat.reduceBEq, beq_self_eq_true, Bool.and_true, Bool.true_and, Bool.false_and, Bool.and_false]
  exact ⟨by decide, wp_nil (ret_n hQ)⟩
theorem log_ok {N : Store} (hQ : Q (.new (.lst rs)) (F :: o1 :: gt L R c row u out :: .lst rs :: N)) : wp ((sm P (d + 1)).call 17 [.ref 2] (F :: o1 :: gt L R c row u out :: .lst rs :: N)) Q := by
  refine wp_call (fn := f17) rfl rfl (by decide) ?_
  show wp (evalSs P (sm P d) b17 [some (.ref 2)] _) _
  have hb : ∀ x, (F :: o1 :: x :: .lst rs :: N : Store)[2]? = some x := fun _ => rfl
  refine wp_cons (wp_S_ret ?_)
  simp only [we_var, we_non, we_bl, we_int, we_str, we_glb, ws_nil, ws_cons, we_tup, we_lst, we_bin, we_neg, we_cmp, we_chain, we_and1, we_or1, we_and, we_or, we_not, we_ite, we_idx, wo_none, wo_some, we_slc, we_attr, we_call, we_meth, we_make, we_makek, wmake, we_blt, we_bm, we_isi, we_comp, wf_nil, wf_one, wt_tru, wi_of, wi_range, wi_enum, wg_name, wg_tup, wg_nil, wg_cons, optQ_some, optQ_if, optQ_map, optQ_bind, tst_bl, tst_non, tst_int, b_add, b_sub, b_mul, b_fdiv, b_mod, b_pow, c_lt, c_le, c_gt, c_ge, c_eqI, c_neI, c_isI, c_notI, c_isN, c_notN, i_ii, i_ib, n_i, d_i, l_min, l_max, x_ref, x_new, x_tup, s_new, s_tup, y_new, at_0, at_1, at_2, mat_int, mat_bl, mat_str, mat_non, mat_ref, mats_nil, mats_cons, mat_tup, List.getElem?_cons_zero, List.getElem?_cons_succ, List.set_cons_zero, List.set_cons_succ, decide_eq_true_eq, decide_eq_false_iff_not, wp_ok, gt, a_ins (hb _), true_implies, false_implies, reduceCtorEq, and_true, true_and, Bool.not_true, Bool.not_false, putA, List.length_nil, List.length_cons, List.set_set, reduceIte, Nat.reduceEqDiff, Nat.zero_ne_one, Nat.one_ne_zero, ne_eq, not_true_eq_false, not_false_eq_true, List.append_assoc, List.cons_append, List.nil_append, List.lookup_cons, List.lookup_nil, Nat.reduceBEq, beq_self_eq_true, Bool.and_true, Bool.true_and, Bool.false_and, Bool.and_false]
  show optQ (some (D.new (.lst rs))) _
  rw [optQ_some]
  exact ret_q hQ
end
abbrev Fz (ns : List Int) : O := .frz (ns.map .int)
theorem mats_same {S : Store} : ∀ {ys : List D}, (∀ y ∈ ys, mat y S = (y, S)) → mats ys S = (ys, S)
  | [], _ => rfl
  | y :: ys, h => by
    rw [mats_cons, h y List.mem_cons_self, mats_same fun z hz => h z (List.mem_cons_of_mem _ hz)]
theorem law_ok (ns : List Int) : ∃ S, lawRun P 12 6 ns = .ok (.bl true) S := by
  suffices h : wp ((sm P 12).call 6 [.ref 0] [Fz ns]) (fun d _ => d = .bl true) by
    obtain ⟨d, S, e, hd⟩ := wp_ex h
    exact ⟨S, by subst hd; exact e⟩
  refine wp_call (fn := f6) rfl rfl (by decide) ?_
  show wp (evalSs P (sm P 11) b6 [some (.ref 0), none, none, none, none, none, none, none, none, none, none, none, none, none, none] [Fz ns]) _
  unfold b6
  refine wp_cons (wp_S_for ?_)
  simp only [we_var, we_non, we_bl, we_int, we_str, we_glb, ws_nil, ws_cons, we_tup, we_lst, we_bin, we_neg, we_cmp, we_chain, we_and1, we_or1, we_and, we_or, we_not, we_ite, we_idx, wo_none, wo_some, we_slc, we_attr, we_call, we_meth, we_make, we_makek, wmake, we_blt, we_bm, we_isi, we_comp, wf_nil, wf_one, wt_tru, wi_of, wi_range, wi_enum, wg_name, wg_tup, wg_nil, wg_cons, optQ_some, optQ_if, optQ_map, optQ_bind, tst_bl, tst_non, tst_int, b_add, b_sub, b_mul, b_fdiv, b_mod, b_pow, c_lt, c_le, c_gt, c_ge, c_eqI, c_neI, c_isI, c_notI, c_isN, c_notN, i_ii, i_ib, n_i, d_i, l_min, l_max, x_ref, x_new, x_tup, s_new, s_tup, y_new, at_0, at_1, at_2, mat_int, mat_bl, mat_str, mat_non, mat_ref, mats_nil, mats_cons, mat_tup, List.getElem?_cons_zero, List.getElem?_cons_succ, List.set_cons_zero, List.set_cons_succ, decide_eq_true_eq, decide_eq_false_iff_not, wp_ok, true_implies, false_implies, reduceCtorEq, and_true, true_and, Bool.not_true, Bool.not_false, putA, List.length_nil, List.length_cons, List.set_set, reduceIte, Nat.reduceEqDiff, Nat.zero_ne_one, Nat.one_ne_zero, ne_eq, not_true_eq_false, not_false_eq_true, List.append_assoc, List.cons_append, List.nil_append, List.lookup_cons, List.lookup_nil, Nat.reduceBEq, beq_self_eq_true, Bool.and_true, Bool.true_and, Bool.false_and, Bool.and_false]
  refine bags_ok (i := 4) (iw := 2) (fn := f4) (fw := f2) (own := [("k", 2), ("cell", 3)]) rfl rfl rfl rfl rfl rfl rfl rfl rfl rfl rfl (ns := ns) rfl (most := 6) (by decide) fun os hos => ?_
  simp only [we_var, we_non, we_bl, we_int, we_str, we_glb, ws_nil, ws_cons, we_tup, we_lst, we_bin, we_neg, we_cmp, we_chain, we_and1, we_or1, we_and, we_or, we_not, we_ite, we_idx, wo_none, wo_some, we_slc, we_attr, we_call, we_meth, we_make, we_makek, wmake, we_blt, we_bm, we_isi, we_comp, wf_nil, wf_one, wt_tru, wi_of, wi_range, wi_enum, wg_name, wg_tup, wg_nil, wg_cons, optQ_some, optQ_if, optQ_map, optQ_bind, tst_bl, tst_non, tst_int, b_add, b_sub, b_mul, b_fdiv, b_mod, b_pow, c_lt, c_le, c_gt, c_ge, c_eqI, c_neI, c_isI, c_notI, c_isN, c_notN, i_ii, i_ib, n_i, d_i, l_min, l_max, x_ref, x_new, x_tup, s_new, s_tup, y_new, at_0, at_1, at_2, mat_int, mat_bl, mat_str, mat_non, mat_ref, mats_nil, mats_cons, mat_tup, List.getElem?_cons_zero, List.getElem?_cons_succ, List.set_cons_zero, List.set_cons_succ, decide_eq_true_eq, decide_eq_false_iff_not, wp_ok, true_implies, false_implies, reduceCtorEq, and_true, true_and, Bool.not_true, Bool.not_false, putA, List.length_nil, List.length_cons, List.set_set, reduceIte, Nat.reduceEqDiff, Nat.zero_ne_one, Nat.one_ne_zero, ne_eq, not_true_eq_false, not_false_eq_true, List.append_assoc, List.cons_append, List.nil_append, List.lookup_cons, List.lookup_nil, Nat.reduceBEq, beq_self_eq_true, Bool.and_true, Bool.true_and, Bool.false_and, Bool.and_false, guardOf]
  refine wp_forF (fun _ ρ S => ρ = [some (.ref 0), none, none, none, none, none, none, none, none, none, none, none, none, none, none] ∧ S = [Fz ns]) ⟨rfl, rfl⟩ (fun _ _ _ _ => rfl) ?_ ?_
  · rintro i d ρ S hd ⟨rfl, rfl⟩
    rw [List.getElem?_map] at hd
    cases ho : os[i]? with
    | none => rw [ho] at hd; cases hd
    | some o =>
      rw [ho] at hd
      cases hd
      have hb := hos o (List.mem_of_getElem? ho)
      obtain ⟨x, y, z, rfl, hb'⟩ := id hb
      have mt : mat (.new (bag x y z)) [Fz ns] = (.ref 1, [Fz ns, bag x y z]) := rfl
      simp only [we_var, we_non, we_bl, we_int, we_str, we_glb, ws_nil, ws_cons, we_tup, we_lst, we_bin, we_neg, we_cmp, we_chain, we_and1, we_or1, we_and, we_or, we_not, we_ite, we_idx, wo_none, wo_some, we_slc, we_attr, we_call, we_meth, we_make, we_makek, wmake, we_blt, we_bm, we_isi, we_comp, wf_nil, wf_one, wt_tru, wi_of, wi_range, wi_enum, wg_name, wg_tup, wg_nil, wg_cons, optQ_some, optQ_if, optQ_map, optQ_bind, tst_bl, tst_non, tst_int, b_add, b_sub, b_mul, b_fdiv, b_mod, b_pow, c_lt, c_le, c_gt, c_ge, c_eqI, c_neI, c_isI, c_notI, c_isN, c_notN, i_ii, i_ib, n_i, d_i, l_min, l_max, x_ref, x_new, x_tup, s_new, s_tup, y_new, at_0, at_1, at_2, mat_int, mat_bl, mat_str, mat_non, mat_ref, mats_nil, mats_cons, mat_tup, List.getElem?_cons_zero, List.getElem?_cons_succ, List.set_cons_zero, List.set_cons_succ, decide_eq_true_eq, decide_eq_false_iff_not, wp_ok, mt]
      -- limit, rest, price
      refine wp_cons (wp_S_par ?_)
      simp only [we_var, we_non, we_bl, we_int, we_str, we_glb, ws_nil, ws_cons, we_tup, we_lst, we_bin, we_neg, we_cmp, we_chain, we_and1, we_or1, we_and, we_or, we_not, we_ite, we_idx, wo_none, wo_some, we_slc, we_attr, we_call, we_meth, we_make, we_makek, wmake, we_blt, we_bm, we_isi, we_comp, wf_nil, wf_one, wt_tru, wi_of, wi_range, wi_enum, wg_name, wg_tup, wg_nil, wg_cons, optQ_some, optQ_if, optQ_map, optQ_bind, tst_bl, tst_non, tst_int, b_add, b_sub, b_mul, b_fdiv, b_mod, b_pow, c_lt, c_le, c_gt, c_ge, c_eqI, c_neI, c_isI, c_notI, c_isN, c_notN, i_ii, i_ib, n_i, d_i, l_min, l_max, x_ref, x_new, x_tup, s_new, s_tup, y_new, at_0, at_1, at_2, mat_int, mat_bl, mat_str, mat_non, mat_ref, mats_nil, mats_cons, mat_tup, List.getElem?_cons_zero, List.getElem?_cons_succ, List.set_cons_zero, List.set_cons_succ, decide_eq_true_eq, decide_eq_false_iff_not, wp_ok, true_implies, false_implies, reduceCtorEq, and_true, true_and, Bool.not_true, Bool.not_false, putA, List.length_nil, List.length_cons, List.set_set, reduceIte, Nat.reduceEqDiff, Nat.zero_ne_one, Nat.one_ne_zero, ne_eq, not_true_eq_false, not_false_eq_true, List.append_assoc, List.cons_append, List.nil_append, List.lookup_cons, List.lookup_nil, Nat.reduceBEq, beq_self_eq_true, Bool.and_true, Bool.true_and, Bool.false_and, Bool.and_false]
      refine take_ok (i := 3) (fn := f3) rfl rfl rfl rfl rfl (S := [_, _]) (b := 1) rfl hb (by decide) (by decide) (by decide) fun r1 o1 r10 r11 ho1 => ?_
      simp only [we_var, we_non, we_bl, we_int, we_str, we_glb, ws_nil, ws_cons, we_tup, we_lst, we_bin, we_neg, we_cmp, we_chain, we_and1, we_or1, we_and, we_or, we_not, we_ite, we_idx, wo_none, wo_some, we_slc, we_attr, we_call, we_meth, we_make, we_makek, wmake, we_blt, we_bm, we_isi, we_comp, wf_nil, wf_one, wt_tru, wi_of, wi_range, wi_enum, wg_name, wg_tup, wg_nil, wg_cons, optQ_some, optQ_if, optQ_map, optQ_bind, tst_bl, tst_non, tst_int, b_add, b_sub, b_mul, b_fdiv, b_mod, b_pow, c_lt, c_le, c_gt, c_ge, c_eqI, c_neI, c_isI, c_notI, c_isN, c_notN, i_ii, i_ib, n_i, d_i, l_min, l_max, x_ref, x_new, x_tup, s_new, s_tup, y_new, at_0, at_1, at_2, mat_int, mat_bl, mat_str, mat_non, mat_ref, mats_nil, mats_cons, mat_tup, List.getElem?_cons_zero, List.getElem?_cons_succ, List.set_cons_zero, List.set_cons_succ, decide_eq_true_eq, decide_eq_false_iff_not, wp_ok, true_implies, false_implies, reduceCtorEq, and_true, true_and, Bool.not_true, Bool.not_false, putA, List.length_nil, List.length_cons, List.set_set, reduceIte, Nat.reduceEqDiff, Nat.zero_ne_one, Nat.one_ne_zero, ne_eq, not_true_eq_false, not_false_eq_true, List.append_assoc, List.cons_append, List.nil_append, List.lookup_cons, List.lookup_nil, Nat.reduceBEq, beq_self_eq_true, Bool.and_true, Bool.true_and, Bool.false_and, Bool.and_false]
      refine take_ok (i := 3) (fn := f3) rfl rfl rfl rfl rfl (S := [_, _]) (b := 1) rfl ho1 (by decide) (by decide) (by decide) fun r2 o2 r20 r21 ho2 => ?_
      simp only [we_var, we_non, we_bl, we_int, we_str, we_glb, ws_nil, ws_cons, we_tup, we_lst, we_bin, we_neg, we_cmp, we_chain, we_and1, we_or1, we_and, we_or, we_not, we_ite, we_idx, wo_none, wo_some, we_slc, we_attr, we_call, we_meth, we_make, we_makek, wmake, we_blt, we_bm, we_isi, we_comp, wf_nil, wf_one, wt_tru, wi_of, wi_range, wi_enum, wg_name, wg_tup, wg_nil, wg_cons, optQ_some, optQ_if, optQ_map, optQ_bind, tst_bl, tst_non, tst_int, b_add, b_sub, b_mul, b_fdiv, b_mod, b_pow, c_lt, c_le, c_gt, c_ge, c_eqI, c_neI, c_isI, c_notI, c_isN, c_notN, i_ii, i_ib, n_i, d_i, l_min, l_max, x_ref, x_new, x_tup, s_new, s_tup, y_new, at_0, at_1, at_2, mat_int, mat_bl, mat_str, mat_non, mat_ref, mats_nil, mats_cons, mat_tup, List.getElem?_cons_zero, List.getElem?_cons_succ, List.set_cons_zero, List.set_cons_succ, decide_eq_true_eq, decide_eq_false_iff_not, wp_ok, true_implies, false_implies, reduceCtorEq, and_true, true_and, Bool.not_true, Bool.not_false, putA, List.length_nil, List.length_cons, List.set_set, reduceIte, Nat.reduceEqDiff, Nat.zero_ne_one, Nat.one_ne_zero, ne_eq, not_true_eq_false, not_false_eq_true, List.append_assoc, List.cons_append, List.nil_append, List.lookup_cons, List.lookup_nil, Nat.reduceBEq, beq_self_eq_true, Bool.and_true, Bool.true_and, Bool.false_and, Bool.and_false, parD]
      generalize hL : 1 + r1 = L
      generalize hR : 1 + r2 = R
      have hL' : 1 ≤ L ∧ L ≤ 5 := by omega
      have hR' : 1 ≤ R ∧ R ≤ 20 := by omega
      refine wp_cons (wp_S_set ?_)
      simp only [we_var, we_non, we_bl, we_int, we_str, we_glb, ws_nil, ws_cons, we_tup, we_lst, we_bin, we_neg, we_cmp, we_chain, we_and1, we_or1, we_and, we_or, we_not, we_ite, we_idx, wo_none, wo_some, we_slc, we_attr, we_call, we_meth, we_make, we_makek, wmake, we_blt, we_bm, we_isi, we_comp, wf_nil, wf_one, wt_tru, wi_of, wi_range, wi_enum, wg_name, wg_tup, wg_nil, wg_cons, optQ_some, optQ_if, optQ_map, optQ_bind, tst_bl, tst_non, tst_int, b_add, b_sub, b_mul, b_fdiv, b_mod, b_pow, c_lt, c_le, c_gt, c_ge, c_eqI, c_neI, c_isI, c_notI, c_isN, c_notN, i_ii, i_ib, n_i, d_i, l_min, l_max, x_ref, x_new, x_tup, s_new, s_tup, y_new, at_0, at_1, at_2, mat_int, mat_bl, mat_str, mat_non, mat_ref, mats_nil, mats_cons, mat_tup, List.getElem?_cons_zero, List.getElem?_cons_succ, List.set_cons_zero, List.set_cons_succ, decide_eq_true_eq, decide_eq_false_iff_not, wp_ok, true_implies, false_implies, reduceCtorEq, and_true, true_and, Bool.not_true, Bool.not_false, putA, List.length_nil, List.length_cons, List.set_set, reduceIte, Nat.reduceEqDiff, Nat.zero_ne_one, Nat.one_ne_zero, ne_eq, not_true_eq_false, not_false_eq_true, List.append_assoc, List.cons_append, List.nil_append, List.lookup_cons, List.lookup_nil, Nat.reduceBEq, beq_self_eq_true, Bool.and_true, Bool.true_and, Bool.false_and, Bool.and_false]
      refine take_ok (i := 3) (fn := f3) rfl rfl rfl rfl rfl (S := [_, _]) (b := 1) rfl ho2 (by decide) (by decide) (by decide) fun r3 o3 r30 r31 ho3 => ?_
      simp only [we_var, we_non, we_bl, we_int, we_str, we_glb, ws_nil, ws_cons, we_tup, we_lst, we_bin, we_neg, we_cmp, we_chain, we_and1, we_or1, we_and, we_or, we_not, we_ite, we_idx, wo_none, wo_some, we_slc, we_attr, we_call, we_meth, we_make, we_makek, wmake, we_blt, we_bm, we_isi, we_comp, wf_nil, wf_one, wt_tru, wi_of, wi_range, wi_enum, wg_name, wg_tup, wg_nil, wg_cons, optQ_some, optQ_if, optQ_map, optQ_bind, tst_bl, tst_non, tst_int, b_add, b_sub, b_mul, b_fdiv, b_mod, b_pow, c_lt, c_le, c_gt, c_ge, c_eqI, c_neI, c_isI, c_notI, c_isN, c_notN, i_ii, i_ib, n_i, d_i, l_min, l_max, x_ref, x_new, x_tup, s_new, s_tup, y_new, at_0, at_1, at_2, mat_int, mat_bl, mat_str, mat_non, mat_ref, mats_nil, mats_cons, mat_tup, List.getElem?_cons_zero, List.getElem?_cons_succ, List.set_cons_zero, List.set_cons_succ, decide_eq_true_eq, decide_eq_false_iff_not, wp_ok, true_implies, false_implies, reduceCtorEq, and_true, true_and, Bool.not_true, Bool.not_false, putA, List.length_nil, List.length_cons, List.set_set, reduceIte, Nat.reduceEqDiff, Nat.zero_ne_one, Nat.one_ne_zero, ne_eq, not_true_eq_false, not_false_eq_true, List.append_assoc, List.cons_append, List.nil_append, List.lookup_cons, List.lookup_nil, Nat.reduceBEq, beq_self_eq_true, Bool.and_true, Bool.true_and, Bool.false_and, Bool.and_false]
      generalize hp : 1 + r3 = p
      have hp' : 1 ≤ p ∧ p ≤ 4 := by omega
      -- the gate, the budget
      refine wp_cons (wp_S_par ?_)
      have hc0 : P.cls[0]? = some { name := "Budget", init := 7, meths := [(12, 8), (13, 9), (14, 10), (15, 11)] } := rfl
      have hc1 : P.cls[1]? = some { name := "Gate", init := 12, meths := [(16, 13), (17, 14), (18, 15), (19, 16), (20, 17)] } := rfl
      simp only [we_var, we_non, we_bl, we_int, we_str, we_glb, ws_nil, ws_cons, we_tup, we_lst, we_bin, we_neg, we_cmp, we_chain, we_and1, we_or1, we_and, we_or, we_not, we_ite, we_idx, wo_none, wo_some, we_slc, we_attr, we_call, we_meth, we_make, we_makek, wmake, we_blt, we_bm, we_isi, we_comp, wf_nil, wf_one, wt_tru, wi_of, wi_range, wi_enum, wg_name, wg_tup, wg_nil, wg_cons, optQ_some, optQ_if, optQ_map, optQ_bind, tst_bl, tst_non, tst_int, b_add, b_sub, b_mul, b_fdiv, b_mod, b_pow, c_lt, c_le, c_gt, c_ge, c_eqI, c_neI, c_isI, c_notI, c_isN, c_notN, i_ii, i_ib, n_i, d_i, l_min, l_max, x_ref, x_new, x_tup, s_new, s_tup, y_new, at_0, at_1, at_2, mat_int, mat_bl, mat_str, mat_non, mat_ref, mats_nil, mats_cons, mat_tup, List.getElem?_cons_zero, List.getElem?_cons_succ, List.set_cons_zero, List.set_cons_succ, decide_eq_true_eq, decide_eq_false_iff_not, wp_ok, true_implies, false_implies, reduceCtorEq, and_true, true_and, Bool.not_true, Bool.not_false, putA, List.length_nil, List.length_cons, List.set_set, reduceIte, Nat.reduceEqDiff, Nat.zero_ne_one, Nat.one_ne_zero, ne_eq, not_true_eq_false, not_false_eq_true, List.append_assoc, List.cons_append, List.nil_append, List.lookup_cons, List.lookup_nil, Nat.reduceBEq, beq_self_eq_true, Bool.and_true, Bool.true_and, Bool.false_and, Bool.and_false, hc0, hc1]
      refine wp_init (ginit_ok ⟨hL'.1, by omega⟩ ⟨hR'.1, by omega⟩ ?_)
      simp only [we_var, we_non, we_bl, we_int, we_str, we_glb, ws_nil, ws_cons, we_tup, we_lst, we_bin, we_neg, we_cmp, we_chain, we_and1, we_or1, we_and, we_or, we_not, we_ite, we_idx, wo_none, wo_some, we_slc, we_attr, we_call, we_meth, we_make, we_makek, wmake, we_blt, we_bm, we_isi, we_comp, wf_nil, wf_one, wt_tru, wi_of, wi_range, wi_enum, wg_name, wg_tup, wg_nil, wg_cons, optQ_some, optQ_if, optQ_map, optQ_bind, tst_bl, tst_non, tst_int, b_add, b_sub, b_mul, b_fdiv, b_mod, b_pow, c_lt, c_le, c_gt, c_ge, c_eqI, c_neI, c_isI, c_notI, c_isN, c_notN, i_ii, i_ib, n_i, d_i, l_min, l_max, x_ref, x_new, x_tup, s_new, s_tup, y_new, at_0, at_1, at_2, mat_int, mat_bl, mat_str, mat_non, mat_ref, mats_nil, mats_cons, mat_tup, List.getElem?_cons_zero, List.getElem?_cons_succ, List.set_cons_zero, List.set_cons_succ, decide_eq_true_eq, decide_eq_false_iff_not, wp_ok, true_implies, false_implies, reduceCtorEq, and_true, true_and, Bool.not_true, Bool.not_false, putA, List.length_nil, List.length_cons, List.set_set, reduceIte, Nat.reduceEqDiff, Nat.zero_ne_one, Nat.one_ne_zero, ne_eq, not_true_eq_false, not_false_eq_true, List.append_assoc, List.cons_append, List.nil_append, List.lookup_cons, List.lookup_nil, Nat.reduceBEq, beq_self_eq_true, Bool.and_true, Bool.true_and, Bool.false_and, Bool.and_false, nonD, kwD, List.map_cons, List.map_nil]
      refine ⟨⟨rfl, rfl⟩, wp_init (binit_ok ⟨hp'.1, by omega⟩ ?_)⟩
      simp only [we_var, we_non, we_bl, we_int, we_str, we_glb, ws_nil, ws_cons, we_tup, we_lst, we_bin, we_neg, we_cmp, we_chain, we_and1, we_or1, we_and, we_or, we_not, we_ite, we_idx, wo_none, wo_some, we_slc, we_attr, we_call, we_meth, we_make, we_makek, wmake, we_blt, we_bm, we_isi, we_comp, wf_nil, wf_one, wt_tru, wi_of, wi_range, wi_enum, wg_name, wg_tup, wg_nil, wg_cons, optQ_some, optQ_if, optQ_map, optQ_bind, tst_bl, tst_non, tst_int, b_add, b_sub, b_mul, b_fdiv, b_mod, b_pow, c_lt, c_le, c_gt, c_ge, c_eqI, c_neI, c_isI, c_notI, c_isN, c_notN, i_ii, i_ib, n_i, d_i, l_min, l_max, x_ref, x_new, x_tup, s_new, s_tup, y_new, at_0, at_1, at_2, mat_int, mat_bl, mat_str, mat_non, mat_ref, mats_nil, mats_cons, mat_tup, List.getElem?_cons_zero, List.getElem?_cons_succ, List.set_cons_zero, List.set_cons_succ, decide_eq_true_eq, decide_eq_false_iff_not, wp_ok, true_implies, false_implies, reduceCtorEq, and_true, true_and, Bool.not_true, Bool.not_false, putA, List.length_nil, List.length_cons, List.set_set, reduceIte, Nat.reduceEqDiff, Nat.zero_ne_one, Nat.one_ne_zero, ne_eq, not_true_eq_false, not_false_eq_true, List.append_assoc, List.cons_append, List.nil_append, List.lookup_cons, List.lookup_nil, Nat.reduceBEq, beq_self_eq_true, Bool.and_true, Bool.true_and, Bool.false_and, Bool.and_false, nonD, parD]
      refine wp_cons (wp_S_set ?_)
      simp only [we_var, we_non, we_bl, we_int, we_str, we_glb, ws_nil, ws_cons, we_tup, we_lst, we_bin, we_neg, we_cmp, we_chain, we_and1, we_or1, we_and, we_or, we_not, we_ite, we_idx, wo_none, wo_some, we_slc, we_attr, we_call, we_meth, we_make, we_makek, wmake, we_blt, we_bm, we_isi, we_comp, wf_nil, wf_one, wt_tru, wi_of, wi_range, wi_enum, wg_name, wg_tup, wg_nil, wg_cons, optQ_some, optQ_if, optQ_map, optQ_bind, tst_bl, tst_non, tst_int, b_add, b_sub, b_mul, b_fdiv, b_mod, b_pow, c_lt, c_le, c_gt, c_ge, c_eqI, c_neI, c_isI, c_notI, c_isN, c_notN, i_ii, i_ib, n_i, d_i, l_min, l_max, x_ref, x_new, x_tup, s_new, s_tup, y_new, at_0, at_1, at_2, mat_int, mat_bl, mat_str, mat_non, mat_ref, mats_nil, mats_cons, mat_tup, List.getElem?_cons_zero, List.getElem?_cons_succ, List.set_cons_zero, List.set_cons_succ, decide_eq_true_eq, decide_eq_false_iff_not, wp_ok, true_implies, false_implies, reduceCtorEq, and_true, true_and, Bool.not_true, Bool.not_false, putA, List.length_nil, List.length_cons, List.set_set, reduceIte, Nat.reduceEqDiff, Nat.zero_ne_one, Nat.one_ne_zero, ne_eq, not_true_eq_false, not_false_eq_true, List.append_assoc, List.cons_append, List.nil_append, List.lookup_cons, List.lookup_nil, Nat.reduceBEq, beq_self_eq_true, Bool.and_true, Bool.true_and, Bool.false_and, Bool.and_false]
      refine wp_cons (wp_S_set ?_)
      simp only [we_var, we_non, we_bl, we_int, we_str, we_glb, ws_nil, ws_cons, we_tup, we_lst, we_bin, we_neg, we_cmp, we_chain, we_and1, we_or1, we_and, we_or, we_not, we_ite, we_idx, wo_none, wo_some, we_slc, we_attr, we_call, we_meth, we_make, we_makek, wmake, we_blt, we_bm, we_isi, we_comp, wf_nil, wf_one, wt_tru, wi_of, wi_range, wi_enum, wg_name, wg_tup, wg_nil, wg_cons, optQ_some, optQ_if, optQ_map, optQ_bind, tst_bl, tst_non, tst_int, b_add, b_sub, b_mul, b_fdiv, b_mod, b_pow, c_lt, c_le, c_gt, c_ge, c_eqI, c_neI, c_isI, c_notI, c_isN, c_notN, i_ii, i_ib, n_i, d_i, l_min, l_max, x_ref, x_new, x_tup, s_new, s_tup, y_new, at_0, at_1, at_2, mat_int, mat_bl, mat_str, mat_non, mat_ref, mats_nil, mats_cons, mat_tup, List.getElem?_cons_zero, List.getElem?_cons_succ, List.set_cons_zero, List.set_cons_succ, decide_eq_true_eq, decide_eq_false_iff_not, wp_ok, true_implies, false_implies, reduceCtorEq, and_true, true_and, Bool.not_true, Bool.not_false, putA, List.length_nil, List.length_cons, List.set_set, reduceIte, Nat.reduceEqDiff, Nat.zero_ne_one, Nat.one_ne_zero, ne_eq, not_true_eq_false, not_false_eq_true, List.append_assoc, List.cons_append, List.nil_append, List.lookup_cons, List.lookup_nil, Nat.reduceBEq, beq_self_eq_true, Bool.and_true, Bool.true_and, Bool.false_and, Bool.and_false]
      refine wp_cons (wp_S_set ?_)
      simp only [we_var, we_non, we_bl, we_int, we_str, we_glb, ws_nil, ws_cons, we_tup, we_lst, we_bin, we_neg, we_cmp, we_chain, we_and1, we_or1, we_and, we_or, we_not, we_ite, we_idx, wo_none, wo_some, we_slc, we_attr, we_call, we_meth, we_make, we_makek, wmake, we_blt, we_bm, we_isi, we_comp, wf_nil, wf_one, wt_tru, wi_of, wi_range, wi_enum, wg_name, wg_tup, wg_nil, wg_cons, optQ_some, optQ_if, optQ_map, optQ_bind, tst_bl, tst_non, tst_int, b_add, b_sub, b_mul, b_fdiv, b_mod, b_pow, c_lt, c_le, c_gt, c_ge, c_eqI, c_neI, c_isI, c_notI, c_isN, c_notN, i_ii, i_ib, n_i, d_i, l_min, l_max, x_ref, x_new, x_tup, s_new, s_tup, y_new, at_0, at_1, at_2, mat_int, mat_bl, mat_str, mat_non, mat_ref, mats_nil, mats_cons, mat_tup, List.getElem?_cons_zero, List.getElem?_cons_succ, List.set_cons_zero, List.set_cons_succ, decide_eq_true_eq, decide_eq_false_iff_not, wp_ok, true_implies, false_implies, reduceCtorEq, and_true, true_and, Bool.not_true, Bool.not_false, putA, List.length_nil, List.length_cons, List.set_set, reduceIte, Nat.reduceEqDiff, Nat.zero_ne_one, Nat.one_ne_zero, ne_eq, not_true_eq_false, not_false_eq_true, List.append_assoc, List.cons_append, List.nil_append, List.lookup_cons, List.lookup_nil, Nat.reduceBEq, beq_self_eq_true, Bool.and_true, Bool.true_and, Bool.false_and, Bool.and_false]
      -- the turns
      refine wp_cons (wp_S_for ?_)
      simp only [we_var, we_non, we_bl, we_int, we_str, we_glb, ws_nil, ws_cons, we_tup, we_lst, we_bin, we_neg, we_cmp, we_chain, we_and1, we_or1, we_and, we_or, we_not, we_ite, we_idx, wo_none, wo_some, we_slc, we_attr, we_call, we_meth, we_make, we_makek, wmake, we_blt, we_bm, we_isi, we_comp, wf_nil, wf_one, wt_tru, wi_of, wi_range, wi_enum, wg_name, wg_tup, wg_nil, wg_cons, optQ_some, optQ_if, optQ_map, optQ_bind, tst_bl, tst_non, tst_int, b_add, b_sub, b_mul, b_fdiv, b_mod, b_pow, c_lt, c_le, c_gt, c_ge, c_eqI, c_neI, c_isI, c_notI, c_isN, c_notN, i_ii, i_ib, n_i, d_i, l_min, l_max, x_ref, x_new, x_tup, s_new, s_tup, y_new, at_0, at_1, at_2, mat_int, mat_bl, mat_str, mat_non, mat_ref, mats_nil, mats_cons, mat_tup, List.getElem?_cons_zero, List.getElem?_cons_succ, List.set_cons_zero, List.set_cons_succ, decide_eq_true_eq, decide_eq_false_iff_not, wp_ok, true_implies, false_implies, reduceCtorEq, and_true, true_and, Bool.not_true, Bool.not_false, putA, List.length_nil, List.length_cons, List.set_set, reduceIte, Nat.reduceEqDiff, Nat.zero_ne_one, Nat.one_ne_zero, ne_eq, not_true_eq_false, not_false_eq_true, List.append_assoc, List.cons_append, List.nil_append, List.lookup_cons, List.lookup_nil, Nat.reduceBEq, beq_self_eq_true, Bool.and_true, Bool.true_and, Bool.false_and, Bool.and_false]
      show optQ (some ((List.range 200).map fun i => D.int (0 + (i : Nat)))) _
      rw [optQ_some]
      have hint : ∀ (i : Nat) (x : D), ((List.range 200).map fun i => D.int (0 + (i : Nat)))[i]? = some x → x = .int i ∧ i < 200 := fun i x hx => by
        have hlt := (List.getElem?_eq_some_iff.mp hx).1
        have hlt : i < 200 := by simpa using hlt
        rw [List.getElem?_map, List.getElem?_range hlt] at hx
        cases hx
        exact ⟨by simp, hlt⟩
      have hlen : ((List.range 200).map fun i => D.int (0 + (i : Nat))).length = 200 := by simp
      generalize ((List.range 200).map fun i => D.int (0 + (i : Nat))) = items at hint hlen ⊢
      refine wp_forF (TI (Fz ns) L R p) ?_ (fun _ _ _ _ => rfl) ?_ ?_
      · exact ⟨o3, 0, 0, 0, 10, 0, true, none, [], none, none, none, rfl, rfl, ho3.mono (by decide), by omega, by omega, ⟨by simp, rfl⟩, by simp, by omega, by omega, by omega, fun v hv => (by cases hv), fun _ v hv => (by cases hv), by omega⟩
      · intro i x ρ S hx hI
        obtain ⟨rfl, hi⟩ := hint i x hx
        simp only [we_var, we_non, we_bl, we_int, we_str, we_glb, ws_nil, ws_cons, we_tup, we_lst, we_bin, we_neg, we_cmp, we_chain, we_and1, we_or1, we_and, we_or, we_not, we_ite, we_idx, wo_none, wo_some, we_slc, we_attr, we_call, we_meth, we_make, we_makek, wmake, we_blt, we_bm, we_isi, we_comp, wf_nil, wf_one, wt_tru, wi_of, wi_range, wi_enum, wg_name, wg_tup, wg_nil, wg_cons, optQ_some, optQ_if, optQ_map, optQ_bind, tst_bl, tst_non, tst_int, b_add, b_sub, b_mul, b_fdiv, b_mod, b_pow, c_lt, c_le, c_gt, c_ge, c_eqI, c_neI, c_isI, c_notI, c_isN, c_notN, i_ii, i_ib, n_i, d_i, l_min, l_max, x_ref, x_new, x_tup, s_new, s_tup, y_new, at_0, at_1, at_2, mat_int, mat_bl, mat_str, mat_non, mat_ref, mats_nil, mats_cons, mat_tup, List.getElem?_cons_zero, List.getElem?_cons_succ, List.set_cons_zero, List.set_cons_succ, decide_eq_true_eq, decide_eq_false_iff_not, wp_ok]
        exact turn_ok hR' hp' hi hI fun ρ' S' hI' => wp_turn0 hI'
      · intro ρ S hI
        rw [hlen] at hI
        obtain ⟨o4, now, since, row, h, r, good, u, rs, t10, t11, t12, rfl, rfl, ho4, n0, n1, hrs, hl, h0, r0, hcc, hu, hu2, _⟩ := hI
        -- the log's asks
        refine wp_cons (wp_S_set ?_)
        simp only [we_var, we_non, we_bl, we_int, we_str, we_glb, ws_nil, ws_cons, we_tup, we_lst, we_bin, we_neg, we_cmp, we_chain, we_and1, we_or1, we_and, we_or, we_not, we_ite, we_idx, wo_none, wo_some, we_slc, we_attr, we_call, we_meth, we_make, we_makek, wmake, we_blt, we_bm, we_isi, we_comp, wf_nil, wf_one, wt_tru, wi_of, wi_range, wi_enum, wg_name, wg_tup, wg_nil, wg_cons, optQ_some, optQ_if, optQ_map, optQ_bind, tst_bl, tst_non, tst_int, b_add, b_sub, b_mul, b_fdiv, b_mod, b_pow, c_lt, c_le, c_gt, c_ge, c_eqI, c_neI, c_isI, c_notI, c_isN, c_notN, i_ii, i_ib, n_i, d_i, l_min, l_max, x_ref, x_new, x_tup, s_new, s_tup, y_new, at_0, at_1, at_2, mat_int, mat_bl, mat_str, mat_non, mat_ref, mats_nil, mats_cons, mat_tup, List.getElem?_cons_zero, List.getElem?_cons_succ, List.set_cons_zero, List.set_cons_succ, decide_eq_true_eq, decide_eq_false_iff_not, wp_ok, rcG (f := 20) rfl, true_implies, false_implies, reduceCtorEq, and_true, true_and, Bool.not_true, Bool.not_false, putA, List.length_nil, List.length_cons, List.set_set, reduceIte, Nat.reduceEqDiff, Nat.zero_ne_one, Nat.one_ne_zero, ne_eq, not_true_eq_false, not_false_eq_true, List.append_assoc, List.cons_append, List.nil_append, List.lookup_cons, List.lookup_nil, Nat.reduceBEq, beq_self_eq_true, Bool.and_true, Bool.true_and, Bool.false_and, Bool.and_false]
        refine log_ok ?_
        simp only [we_var, we_non, we_bl, we_int, we_str, we_glb, ws_nil, ws_cons, we_tup, we_lst, we_bin, we_neg, we_cmp, we_chain, we_and1, we_or1, we_and, we_or, we_not, we_ite, we_idx, wo_none, wo_some, we_slc, we_attr, we_call, we_meth, we_make, we_makek, wmake, we_blt, we_bm, we_isi, we_comp, wf_nil, wf_one, wt_tru, wi_of, wi_range, wi_enum, wg_name, wg_tup, wg_nil, wg_cons, optQ_some, optQ_if, optQ_map, optQ_bind, tst_bl, tst_non, tst_int, b_add, b_sub, b_mul, b_fdiv, b_mod, b_pow, c_lt, c_le, c_gt, c_ge, c_eqI, c_neI, c_isI, c_notI, c_isN, c_notN, i_ii, i_ib, n_i, d_i, l_min, l_max, x_ref, x_new, x_tup, s_new, s_tup, y_new, at_0, at_1, at_2, mat_int, mat_bl, mat_str, mat_non, mat_ref, mats_nil, mats_cons, mat_tup, List.getElem?_cons_zero, List.getElem?_cons_succ, List.set_cons_zero, List.set_cons_succ, decide_eq_true_eq, decide_eq_false_iff_not, wp_ok, true_implies, false_implies, reduceCtorEq, and_true, true_and, Bool.not_true, Bool.not_false, putA, List.length_nil, List.length_cons, List.set_set, reduceIte, Nat.reduceEqDiff, Nat.zero_ne_one, Nat.one_ne_zero, ne_eq, not_true_eq_false, not_false_eq_true, List.append_assoc, List.cons_append, List.nil_append, List.lookup_cons, List.lookup_nil, Nat.reduceBEq, beq_self_eq_true, Bool.and_true, Bool.true_and, Bool.false_and, Bool.and_false, guardOf, wipeD, List.map_cons, List.map_nil]
        have big : (20000 : Nat) ≤ sizeLine := by decide
        refine wp_compF (fun j ys S' => S' = [Fz ns, o4, gt L R now row u false, .lst rs, bud 10 p h (200 : Nat) r] ∧ ys = (rs.take j).filter isAsk) ⟨rfl, by simp⟩ (fun _ _ _ _ => rfl) ?_ ?_
        · rintro j d ys S' hd ⟨rfl, rfl⟩
          have hj := (List.getElem?_eq_some_iff.mp hd).1
          obtain ⟨t, s, rfl⟩ := hrs.row d (List.mem_of_getElem? hd)
          have tk : rs.take (j + 1) = rs.take j ++ [D.tup [.int t, .str s]] := by
            rw [List.take_add_one, hd]; rfl
          simp only [we_var, we_non, we_bl, we_int, we_str, we_glb, ws_nil, ws_cons, we_tup, we_lst, we_bin, we_neg, we_cmp, we_chain, we_and1, we_or1, we_and, we_or, we_not, we_ite, we_idx, wo_none, wo_some, we_slc, we_attr, we_call, we_meth, we_make, we_makek, wmake, we_blt, we_bm, we_isi, we_comp, wf_nil, wf_one, wt_tru, wi_of, wi_range, wi_enum, wg_name, wg_tup, wg_nil, wg_cons, optQ_some, optQ_if, optQ_map, optQ_bind, tst_bl, tst_non, tst_int, b_add, b_sub, b_mul, b_fdiv, b_mod, b_pow, c_lt, c_le, c_gt, c_ge, c_eqI, c_neI, c_isI, c_notI, c_isN, c_notN, i_ii, i_ib, n_i, d_i, l_min, l_max, x_ref, x_new, x_tup, s_new, s_tup, y_new, at_0, at_1, at_2, mat_int, mat_bl, mat_str, mat_non, mat_ref, mats_nil, mats_cons, mat_tup, List.getElem?_cons_zero, List.getElem?_cons_succ, List.set_cons_zero, List.set_cons_succ, decide_eq_true_eq, decide_eq_false_iff_not, wp_ok, c_eqS, true_implies, false_implies, reduceCtorEq, and_true, true_and, Bool.not_true, Bool.not_false, putA, List.length_nil, List.length_cons, List.set_set, reduceIte, Nat.reduceEqDiff, Nat.zero_ne_one, Nat.one_ne_zero, ne_eq, not_true_eq_false, not_false_eq_true, List.append_assoc, List.cons_append, List.nil_append, List.lookup_cons, List.lookup_nil, Nat.reduceBEq, beq_self_eq_true, Bool.and_true, Bool.true_and, Bool.false_and, Bool.and_false]
          refine ⟨fun z => ?_, fun z => ?_⟩
          · rw [tk, List.filter_append]
            have : isAsk (.tup [.int t, .str s]) = true := by show decide (s = "ask") = true; exact decide_eq_true z
            simp [this]
          · rw [tk, List.filter_append]
            have : isAsk (.tup [.int t, .str s]) = false := by show decide (s = "ask") = false; exact decide_eq_false z
            simp [this]
        · rintro ys S' ⟨rfl, rfl⟩
          rw [List.take_length]
          have half := hrs.half
          refine ⟨by omega, ?_⟩
          have sm0 : mats (rs.filter isAsk) [Fz ns, o4, gt L R now row u false, .lst rs, bud 10 p h (200 : Nat) r] = (rs.filter isAsk, [Fz ns, o4, gt L R now row u false, .lst rs, bud 10 p h (200 : Nat) r]) := mats_same fun y hy => by
            obtain ⟨t, s, rfl⟩ := hrs.row y ((List.mem_filter.mp hy).1)
            rfl
          simp only [we_var, we_non, we_bl, we_int, we_str, we_glb, ws_nil, ws_cons, we_tup, we_lst, we_bin, we_neg, we_cmp, we_chain, we_and1, we_or1, we_and, we_or, we_not, we_ite, we_idx, wo_none, wo_some, we_slc, we_attr, we_call, we_meth, we_make, we_makek, wmake, we_blt, we_bm, we_isi, we_comp, wf_nil, wf_one, wt_tru, wi_of, wi_range, wi_enum, wg_name, wg_tup, wg_nil, wg_cons, optQ_some, optQ_if, optQ_map, optQ_bind, tst_bl, tst_non, tst_int, b_add, b_sub, b_mul, b_fdiv, b_mod, b_pow, c_lt, c_le, c_gt, c_ge, c_eqI, c_neI, c_isI, c_notI, c_isN, c_notN, i_ii, i_ib, n_i, d_i, l_min, l_max, x_ref, x_new, x_tup, s_new, s_tup, y_new, at_0, at_1, at_2, mat_int, mat_bl, mat_str, mat_non, mat_ref, mats_nil, mats_cons, mat_tup, List.getElem?_cons_zero, List.getElem?_cons_succ, List.set_cons_zero, List.set_cons_succ, decide_eq_true_eq, decide_eq_false_iff_not, wp_ok, mat_lst, sm0, true_implies, false_implies, reduceCtorEq, and_true, true_and, Bool.not_true, Bool.not_false, putA, List.length_nil, List.length_cons, List.set_set, reduceIte, Nat.reduceEqDiff, Nat.zero_ne_one, Nat.one_ne_zero, ne_eq, not_true_eq_false, not_false_eq_true, List.append_assoc, List.cons_append, List.nil_append, List.lookup_cons, List.lookup_nil, Nat.reduceBEq, beq_self_eq_true, Bool.and_true, Bool.true_and, Bool.false_and, Bool.and_false]
          refine wp_cons (wp_S_ite ?_)
          have rc2 : recvD 1 20 (.ref 2) [Fz ns, o4, gt L R now row u false, .lst rs, bud 10 p h (200 : Nat) r, .lst (rs.filter isAsk)] = some 2 := r_ins (S := [_, _, gt _ _ _ _ _ _, _, _, _]) rfl rfl
          have rc3 : recvD 0 15 (.ref 4) [Fz ns, o4, gt L R now row u false, .lst rs, bud 10 p h (200 : Nat) r, .lst (rs.filter isAsk)] = some 4 := r_ins (S := [_, _, _, _, bud _ _ _ _ _, _]) rfl rfl
          have ln : bltD .len [.ref 5] [Fz ns, o4, gt L R now row u false, .lst rs, bud 10 p h (200 : Nat) r, .lst (rs.filter isAsk)] = some (.int (rs.filter isAsk).length) := rfl
          simp only [we_var, we_non, we_bl, we_int, we_str, we_glb, ws_nil, ws_cons, we_tup, we_lst, we_bin, we_neg, we_cmp, we_chain, we_and1, we_or1, we_and, we_or, we_not, we_ite, we_idx, wo_none, wo_some, we_slc, we_attr, we_call, we_meth, we_make, we_makek, wmake, we_blt, we_bm, we_isi, we_comp, wf_nil, wf_one, wt_tru, wi_of, wi_range, wi_enum, wg_name, wg_tup, wg_nil, wg_cons, optQ_some, optQ_if, optQ_map, optQ_bind, tst_bl, tst_non, tst_int, b_add, b_sub, b_mul, b_fdiv, b_mod, b_pow, c_lt, c_le, c_gt, c_ge, c_eqI, c_neI, c_isI, c_notI, c_isN, c_notN, i_ii, i_ib, n_i, d_i, l_min, l_max, x_ref, x_new, x_tup, s_new, s_tup, y_new, at_0, at_1, at_2, mat_int, mat_bl, mat_str, mat_non, mat_ref, mats_nil, mats_cons, mat_tup, List.getElem?_cons_zero, List.getElem?_cons_succ, List.set_cons_zero, List.set_cons_succ, decide_eq_true_eq, decide_eq_false_iff_not, wp_ok, ln, rc2, true_implies, false_implies, reduceCtorEq, and_true, true_and, Bool.not_true, Bool.not_false, putA, List.length_nil, List.length_cons, List.set_set, reduceIte, Nat.reduceEqDiff, Nat.zero_ne_one, Nat.one_ne_zero, ne_eq, not_true_eq_false, not_false_eq_true, List.append_assoc, List.cons_append, List.nil_append, List.lookup_cons, List.lookup_nil, Nat.reduceBEq, beq_self_eq_true, Bool.and_true, Bool.true_and, Bool.false_and, Bool.and_false]
          refine ⟨mul_ok (by omega) (by decide), log_ok ?_⟩
          have ln2 : bltD .len [.new (.lst rs)] [Fz ns, o4, gt L R now row u false, .lst rs, bud 10 p h (200 : Nat) r, .lst (rs.filter isAsk)] = some (.int rs.length) := rfl
          simp only [we_var, we_non, we_bl, we_int, we_str, we_glb, ws_nil, ws_cons, we_tup, we_lst, we_bin, we_neg, we_cmp, we_chain, we_and1, we_or1, we_and, we_or, we_not, we_ite, we_idx, wo_none, wo_some, we_slc, we_attr, we_call, we_meth, we_make, we_makek, wmake, we_blt, we_bm, we_isi, we_comp, wf_nil, wf_one, wt_tru, wi_of, wi_range, wi_enum, wg_name, wg_tup, wg_nil, wg_cons, optQ_some, optQ_if, optQ_map, optQ_bind, tst_bl, tst_non, tst_int, b_add, b_sub, b_mul, b_fdiv, b_mod, b_pow, c_lt, c_le, c_gt, c_ge, c_eqI, c_neI, c_isI, c_notI, c_isN, c_notN, i_ii, i_ib, n_i, d_i, l_min, l_max, x_ref, x_new, x_tup, s_new, s_tup, y_new, at_0, at_1, at_2, mat_int, mat_bl, mat_str, mat_non, mat_ref, mats_nil, mats_cons, mat_tup, List.getElem?_cons_zero, List.getElem?_cons_succ, List.set_cons_zero, List.set_cons_succ, decide_eq_true_eq, decide_eq_false_iff_not, wp_ok, ln2, true_implies, false_implies, reduceCtorEq, and_true, true_and, Bool.not_true, Bool.not_false, putA, List.length_nil, List.length_cons, List.set_set, reduceIte, Nat.reduceEqDiff, Nat.zero_ne_one, Nat.one_ne_zero, ne_eq, not_true_eq_false, not_false_eq_true, List.append_assoc, List.cons_append, List.nil_append, List.lookup_cons, List.lookup_nil, Nat.reduceBEq, beq_self_eq_true, Bool.and_true, Bool.true_and, Bool.false_and, Bool.and_false]
          refine ⟨fun z => ?_, fun _ => ?_⟩
          · have : ((rs.filter isAsk).length : Int) * 2 = rs.length := by omega
            simp [this] at z
          simp only [rc3, optQ_some]
          refine counts_ok ?_
          simp only [we_var, we_non, we_bl, we_int, we_str, we_glb, ws_nil, ws_cons, we_tup, we_lst, we_bin, we_neg, we_cmp, we_chain, we_and1, we_or1, we_and, we_or, we_not, we_ite, we_idx, wo_none, wo_some, we_slc, we_attr, we_call, we_meth, we_make, we_makek, wmake, we_blt, we_bm, we_isi, we_comp, wf_nil, wf_one, wt_tru, wi_of, wi_range, wi_enum, wg_name, wg_tup, wg_nil, wg_cons, optQ_some, optQ_if, optQ_map, optQ_bind, tst_bl, tst_non, tst_int, b_add, b_sub, b_mul, b_fdiv, b_mod, b_pow, c_lt, c_le, c_gt, c_ge, c_eqI, c_neI, c_isI, c_notI, c_isN, c_notN, i_ii, i_ib, n_i, d_i, l_min, l_max, x_ref, x_new, x_tup, s_new, s_tup, y_new, at_0, at_1, at_2, mat_int, mat_bl, mat_str, mat_non, mat_ref, mats_nil, mats_cons, mat_tup, List.getElem?_cons_zero, List.getElem?_cons_succ, List.set_cons_zero, List.set_cons_succ, decide_eq_true_eq, decide_eq_false_iff_not, wp_ok, true_implies, false_implies, reduceCtorEq, and_true, true_and, Bool.not_true, Bool.not_false, putA, List.length_nil, List.length_cons, List.set_set, reduceIte, Nat.reduceEqDiff, Nat.zero_ne_one, Nat.one_ne_zero, ne_eq, not_true_eq_false, not_false_eq_true, List.append_assoc, List.cons_append, List.nil_append, List.lookup_cons, List.lookup_nil, Nat.reduceBEq, beq_self_eq_true, Bool.and_true, Bool.true_and, Bool.false_and, Bool.and_false]
          refine ⟨fun z => (by simp at z), fun _ => wp_nil (wp_nil ?_)⟩
          exact wp_turn1 rfl (trunc_app (S0 := [Fz ns]) (N := [_, _, _, _, _])) ⟨rfl, rfl⟩
  · rintro ρ S ⟨rfl, rfl⟩
    show wp (evalSs P (sm P 11) [.ret (.bl true)] _ _) _
    refine wp_cons (wp_S_ret ?_)
    simp only [we_var, we_non, we_bl, we_int, we_str, we_glb, ws_nil, ws_cons, we_tup, we_lst, we_bin, we_neg, we_cmp, we_chain, we_and1, we_or1, we_and, we_or, we_not, we_ite, we_idx, wo_none, wo_some, we_slc, we_attr, we_call, we_meth, we_make, we_makek, wmake, we_blt, we_bm, we_isi, we_comp, wf_nil, wf_one, wt_tru, wi_of, wi_range, wi_enum, wg_name, wg_tup, wg_nil, wg_cons, optQ_some, optQ_if, optQ_map, optQ_bind, tst_bl, tst_non, tst_int, b_add, b_sub, b_mul, b_fdiv, b_mod, b_pow, c_lt, c_le, c_gt, c_ge, c_eqI, c_neI, c_isI, c_notI, c_isN, c_notN, i_ii, i_ib, n_i, d_i, l_min, l_max, x_ref, x_new, x_tup, s_new, s_tup, y_new, at_0, at_1, at_2, mat_int, mat_bl, mat_str, mat_non, mat_ref, mats_nil, mats_cons, mat_tup, List.getElem?_cons_zero, List.getElem?_cons_succ, List.set_cons_zero, List.set_cons_succ, decide_eq_true_eq, decide_eq_false_iff_not, wp_ok]
    exact ret_q rfl
end Lwk84
theorem PySem.Challenge.cw_faultward_k84_whole_calls_through_gates_holds : PySem.Challenge.rw_faultward_k84_whole_calls_through_gates.Holds :=
  Lwk84.holds fun ns _ => Lwk84.law_ok ns
